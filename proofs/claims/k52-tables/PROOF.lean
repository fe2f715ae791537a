import PyProof.Rows.All
import Wide.All
import OpenK.AllK
import Wide.FinOn
import HandS.ForExc
import HandS.ForMost
import HandS.Zip
import HandS.Star
import HandS.Wide
import HandS.TupMul
import HandS.TupAny
import HandS.ClsMeth
import HandS.Property
import HandS.Defaults
import HandS.IsInst
import HandS.TryOnly
import HandS.Style
import HandS.TupLen
import HandS.WordsDict
import HandS.Small
import KE.GoesEnumKw
import HandS.Conv
import KE.SortData
import KE.KDictSum
import HandS.Rev
import HandS.RaiseMore
import PyProof.ReprRoads
import HandS.EndBits
import HandS.WideMore
import PyProof.ListIndex
import PyProof.ListIndexNeg
import HandS.TupLe
import HandS.Iter
import HandS.WideBits
import HandS.Text
import HandS.ExcInit
import HandS.ExcField
import HandS.ExcIs
import KE.KIsAll
import HandS.Remove
import PyProof.DictUpdate
import PyProof.CallFns
import PyProof.Rows.IntBool
import PyProof.CallStr
import PyProof.GenQ
import PyProof.GenRules
import PyProof.GenComp
import PyProof.ForAny
import HandS.GenList
import HandS.GenOver
import PyProof.ListStr
import KE.IntTextText
import KE.KStateDown
import HandS.Head0
import HandS.Head1
import HandS.Head2
import HandS.HeadHook1
import PySem.Challenge.RW_crossnought_k52_texts_of_tables
set_option Elab.async false
set_option linter.all false
set_option maxRecDepth 100000
set_option maxHeartbeats 4000000
/-! DL0: data trees, the store of mutable cells, what a heap bears of them -/
namespace DL
open PySem PySem.Spec PyProof.Rows L2
/-- a value as plain data; ref: a cell of the store -/
inductive D where
  | non | bl (b : Bool) | int (i : Int) | str (x : Str)
  | tup (ds : List D) | lst (ds : List D)
  | dK (kvs : List (Key × D)) | dT (kvs : List (List Key × D))
  | obj (c : Nat) (fs : List D)
  | ref (n : Nat)
  /-- a list that stood before (the script, a list of the module): read alone -/
  | scr (ds : List D)
  /-- a tuple of the module -/
  | wtp (ds : List D)
  /-- a class or a def of the written part; a built-in type -/
  | con (a : Addr) | ty (n : String)
  /-- an error that is being handled, of class c; its field -/
  | err (c : Nat) (d : D)
inductive Cell where
  | lst (ds : List D) | dK (kvs : List (Key × D)) | dT (kvs : List (List Key × D)) | ins (c : Nat) (fs : List D)
abbrev Sto := List (Option Cell)
abbrev Env := List (Option D)
/-- an outcome -/
inductive Res (α : Type) where
  | ok (a : α) (S : Sto)
  | ex (c : Nat) (d : D) (S : Sto)
  | stuck
def Res.bind {α β : Type} (r : Res α) (k : α → Sto → Res β) : Res β :=
  match r with
  | .ok a S => k a S
  | .ex c d S => .ex c d S
  | .stuck => .stuck
@[simp] theorem Res.bind_ok {α β : Type} (a : α) (S : Sto) (k : α → Sto → Res β) : (Res.ok a S).bind k = k a S := rfl
@[simp] theorem Res.bind_ex {α β : Type} (c : Nat) (d : D) (S : Sto) (k : α → Sto → Res β) : (Res.ex c d S).bind k = .ex c d S := rfl
@[simp] theorem Res.bind_stuck {α β : Type} (k : α → Sto → Res β) : (Res.stuck : Res α).bind k = .stuck := rfl
/-- what is fixed for a whole law: the written part, the classes and their fields, the exceptions and their field -/
structure Gx where
  P : Program
  w : World
  K : PySem.W.Frag
  mg : Str → Option Value
  base : Heap
  cls : Nat → Addr
  fns : Nat → List Str
  exc : Nat → Addr
  exf : Nat → Str
  /-- the error that is being handled, and its dict -/
  cur : Option (Addr × Addr × Addr)
def WrL (K : PySem.W.Frag) (a : Addr) (xs : List V) : Prop :=
  ∃ (o : Obj) (its : Array Value) (n : Nat), K.lookup a = some o ∧ o.cls = .type "list" ∧ o.dict = none ∧ o.data = .seq its n ∧ its.size ≤ sizeLine ∧ Vals xs its.toList
def WrT (K : PySem.W.Frag) (a : Addr) (xs : List V) : Prop :=
  ∃ (o : Obj) (its : Array Value) (n : Nat), K.lookup a = some o ∧ o.cls = .type "tuple" ∧ o.data = .seq its n ∧ its.size ≤ sizeLine ∧ Vals xs its.toList
/-- where the cells of the store stand; z: what is being built and belongs to no one yet -/
structure Ix where
  l : List Addr
  z : Addr → Prop
section
variable (G : Gx) (ι : Ix) (L : Addr → Prop) (H : Hp)
mutual
inductive Rep : V → D → Prop
  | non : Rep .non .non
  | bl (b : Bool) : Rep (.bl b) (.bl b)
  | int (i : Int) : Rep (.int i) (.int i)
  | str (x : Str) : Rep (.str x) (.str x)
  | tup {a : Addr} {vs : List V} {ds : List D} : H a = some (.tup vs) → ¬ L a → Reps vs ds → Rep (.ref a) (.tup ds)
  | wtp {a : Addr} {vs : List V} {ds : List D} : WrT G.K a vs → Reps vs ds → Rep (.ref a) (.wtp ds)
  | lst {a : Addr} {vs : List V} {ds : List D} : H a = some (.lst vs) → ¬ L a → Reps vs ds → Rep (.ref a) (.lst ds)
  | scr {a : Addr} {vs : List V} {ds : List D} : (Rd H a (.lst vs) ∧ ¬ L a) ∨ WrL G.K a vs → Reps vs ds → Rep (.ref a) (.scr ds)
  | dK {a : Addr} {kvs : List (Key × V)} {kds : List (Key × D)} : H a = some (.dK kvs) → ¬ L a → kvs.map (·.1) = kds.map (·.1) → Reps (kvs.map (·.2)) (kds.map (·.2)) → Rep (.ref a) (.dK kds)
  | dT {a : Addr} {kvs : List (List Key × V)} {kds : List (List Key × D)} : H a = some (.dT kvs) → ¬ L a → kvs.map (·.1) = kds.map (·.1) → Reps (kvs.map (·.2)) (kds.map (·.2)) → Rep (.ref a) (.dT kds)
  | obj {a dx : Addr} {c : Nat} {nfs : List (Str × V)} {fs : List D} : H a = some (.ins (G.cls c) dx nfs) → ¬ L a → nfs.map (·.1) = (G.fns c).take fs.length → Reps (nfs.map (·.2)) fs → Rep (.ref a) (.obj c fs)
  | ref {a : Addr} {n : Nat} : ι.l[n]? = some a → Rep (.ref a) (.ref n)
  | con (a : Addr) : Rep (.ref a) (.con a)
  | ty (n : String) : Rep (.ty n) (.ty n)
  | err {a dx : Addr} {c : Nat} {v : V} {d : D} : G.cur = some (a, dx, G.exc c) → H dx = some (.xd [(G.exf c, v)]) → ¬ L dx → Rep v d → Rep (.ref a) (.err c d)
inductive Reps : List V → List D → Prop
  | nil : Reps [] []
  | cons {v : V} {d : D} {vs : List V} {ds : List D} : Rep v d → Reps vs ds → Reps (v :: vs) (d :: ds)
end
end
/-- the address of a live cell -/
def Liv (ι : Ix) (S : Sto) (a : Addr) : Prop := ∃ (n : Nat) (c : Cell), ι.l[n]? = some a ∧ S[n]? = some (some c)
/-- what a frozen thing is not -/
def Lv (ι : Ix) (S : Sto) (a : Addr) : Prop := Liv ι S a ∨ ι.z a
def CellIs (G : Gx) (ι : Ix) (L : Addr → Prop) (H : Hp) (a : Addr) : Cell → Prop
  | .lst ds => ∃ vs, H a = some (.lst vs) ∧ Reps G ι L H vs ds
  | .dK kds => ∃ kvs, H a = some (.dK kvs) ∧ kvs.map (·.1) = kds.map (·.1) ∧ Reps G ι L H (kvs.map (·.2)) (kds.map (·.2))
  | .dT kds => ∃ kvs, H a = some (.dT kvs) ∧ kvs.map (·.1) = kds.map (·.1) ∧ Reps G ι L H (kvs.map (·.2)) (kds.map (·.2))
  | .ins c fs => ∃ dx nfs, H a = some (.ins (G.cls c) dx nfs) ∧ nfs.map (·.1) = (G.fns c).take fs.length ∧ Reps G ι L H (nfs.map (·.2)) fs
/-- the heap bears the store -/
structure Rel (G : Gx) (ι : Ix) (S : Sto) (H : Hp) : Prop where
  len : ι.l.length = S.length
  nd : ι.l.Nodup
  cell : ∀ (n : Nat) (c : Cell), S[n]? = some (some c) → ∃ a, ι.l[n]? = some a ∧ CellIs G ι (Lv ι S) H a c
  trk : ∀ a ∈ ι.l, ∃ o, H a = some o
  ztr : ∀ a, ι.z a → (∃ o, H a = some o ∧ ∀ xs, o ≠ .tup xs) ∧ a ∉ ι.l
/-- from one state to a later one -/
structure Ext (ι : Ix) (S : Sto) (H : Hp) (ι' : Ix) (S' : Sto) (H' : Hp) : Prop where
  pre : ∃ t, ι'.l = ι.l ++ t
  zs : ∀ a, ι.z a → ι'.z a
  zn : ∀ a, ι'.z a → ι.z a ∨ H a = none
  trk : ∀ a o, H a = some o → ∃ o', H' a = some o'
  liv : ∀ a, Liv ι' S' a → Liv ι S a ∨ H a = none
  keep : ∀ a o, H a = some o → ¬ Liv ι S a → H' a = some o
theorem Ext.refl {ι : Ix} {S : Sto} {H : Hp} : Ext ι S H ι S H := ⟨⟨[], by simp⟩, fun _ h => h, fun _ h => .inl h, fun _ o h => ⟨o, h⟩, fun _ h => .inl h, fun _ _ h _ => h⟩
theorem Ext.trans {ι ι1 ι2 : Ix} {S S1 S2 : Sto} {H H1 H2 : Hp} (a : Ext ι S H ι1 S1 H1) (b : Ext ι1 S1 H1 ι2 S2 H2) : Ext ι S H ι2 S2 H2 := by
  have back : ∀ x, H1 x = none → H x = none := fun x h => by
    cases e : H x with
    | none => rfl
    | some o =>
      obtain ⟨o', q⟩ := a.trk x o e
      rw [h] at q
      cases q
  refine ⟨?_, fun x h => b.zs x (a.zs x h), fun x h => ?_, fun x o h => ?_, fun x h => ?_, fun x o h hl => ?_⟩
  · obtain ⟨t, e⟩ := a.pre
    obtain ⟨u, e2⟩ := b.pre
    exact ⟨t ++ u, by rw [e2, e]; simp⟩
  · rcases b.zn x h with h | h
    · exact a.zn x h
    · exact .inr (back x h)
  · obtain ⟨o1, h1⟩ := a.trk x o h
    exact b.trk x o1 h1
  · rcases b.liv x h with h | h
    · exact a.liv x h
    · exact .inr (back x h)
  · refine b.keep x o (a.keep x o h hl) fun z => ?_
    rcases a.liv x z with z | z
    · exact hl z
    · rw [z] at h
      cases h
section
variable {G : Gx} {ι ι' : Ix} {S S' : Sto} {H H' : Hp}
theorem Ext.idx (e : Ext ι S H ι' S' H') {n : Nat} {a : Addr} (h : ι.l[n]? = some a) : ι'.l[n]? = some a := by
  obtain ⟨t, q⟩ := e.pre
  rw [q, List.getElem?_append_left]
  · exact h
  · exact (List.getElem?_eq_some_iff.mp h).1
theorem Ext.notLv (e : Ext ι S H ι' S' H') {a : Addr} {o : HO} (h : H a = some o) (hl : ¬ Lv ι S a) : ¬ Lv ι' S' a := fun z => by
  rcases z with z | z
  · rcases e.liv a z with z | z
    · exact hl (.inl z)
    · rw [z] at h
      cases h
  · rcases e.zn a z with z | z
    · exact hl (.inr z)
    · rw [z] at h
      cases h
theorem Ext.kp (e : Ext ι S H ι' S' H') {a : Addr} {o : HO} (h : H a = some o) (hl : ¬ Lv ι S a) : H' a = some o := e.keep a o h fun z => hl (.inl z)
theorem Ext.rd (e : Ext ι S H ι' S' H') {a : Addr} {u : HO} (h : Rd H a u) (hl : ¬ Lv ι S a) : Rd H' a u ∧ ¬ Lv ι' S' a := by
  rcases h with h | ⟨o, h⟩
  · exact ⟨.inl (e.kp h hl), e.notLv h hl⟩
  · exact ⟨.inr ⟨o, e.kp h hl⟩, e.notLv h hl⟩
mutual
theorem Rep.mono (e : Ext ι S H ι' S' H') : ∀ {v : V} {d : D}, Rep G ι (Lv ι S) H v d → Rep G ι' (Lv ι' S') H' v d
  | _, _, .non => .non
  | _, _, .bl b => .bl b
  | _, _, .int i => .int i
  | _, _, .str x => .str x
  | _, _, .con a => .con a
  | _, _, .ty n => .ty n
  | _, _, .tup h hl r => .tup (e.kp h hl) (e.notLv h hl) (r.mono e)
  | _, _, .wtp h r => .wtp h (r.mono e)
  | _, _, .lst h hl r => .lst (e.kp h hl) (e.notLv h hl) (r.mono e)
  | _, _, .scr (.inl h) r => .scr (.inl (e.rd h.1 h.2)) (r.mono e)
  | _, _, .scr (.inr h) r => .scr (.inr h) (r.mono e)
  | _, _, .dK h hl k r => .dK (e.kp h hl) (e.notLv h hl) k (r.mono e)
  | _, _, .dT h hl k r => .dT (e.kp h hl) (e.notLv h hl) k (r.mono e)
  | _, _, .obj h hl k r => .obj (e.kp h hl) (e.notLv h hl) k (r.mono e)
  | _, _, .ref h => .ref (e.idx h)
  | _, _, .err h1 h2 hl r => .err h1 (e.kp h2 hl) (e.notLv h2 hl) (r.mono e)
theorem Reps.mono (e : Ext ι S H ι' S' H') : ∀ {vs : List V} {ds : List D}, Reps G ι (Lv ι S) H vs ds → Reps G ι' (Lv ι' S') H' vs ds
  | _, _, .nil => .nil
  | _, _, .cons h r => .cons (h.mono e) (r.mono e)
end
theorem Reps.length {L : Addr → Prop} : ∀ {vs : List V} {ds : List D}, Reps G ι L H vs ds → vs.length = ds.length
  | _, _, .nil => rfl
  | _, _, .cons _ r => congrArg Nat.succ r.length
theorem Reps.get {L : Addr → Prop} : ∀ {vs : List V} {ds : List D} {i : Nat} {d : D}, Reps G ι L H vs ds → ds[i]? = some d → ∃ v, vs[i]? = some v ∧ Rep G ι L H v d
  | _, _, _, _, .nil, e => by simp at e
  | _, _, 0, _, .cons h _, e => by
    simp at e
    subst e
    exact ⟨_, rfl, h⟩
  | _, _, i + 1, _, .cons _ r, e => by
    obtain ⟨v, h1, h2⟩ := Reps.get (i := i) r (by simpa using e)
    exact ⟨v, by simpa using h1, h2⟩
theorem Reps.app {L : Addr → Prop} : ∀ {vs ws : List V} {ds es : List D}, Reps G ι L H vs ds → Reps G ι L H ws es → Reps G ι L H (vs ++ ws) (ds ++ es)
  | _, _, _, _, .nil, s => s
  | _, _, _, _, .cons h r, s => .cons h (r.app s)
theorem Reps.split {L : Addr → Prop} : ∀ {vs : List V} {ds es : List D}, Reps G ι L H vs (ds ++ es) → ∃ v1 v2, vs = v1 ++ v2 ∧ Reps G ι L H v1 ds ∧ Reps G ι L H v2 es
  | vs, [], _, r => ⟨[], vs, rfl, .nil, r⟩
  | _, _ :: ds, es, .cons h r => by
    obtain ⟨v1, v2, e, r1, r2⟩ := Reps.split (ds := ds) (es := es) r
    exact ⟨_ :: v1, v2, by rw [e]; rfl, .cons h r1, r2⟩
theorem Reps.take {L : Addr → Prop} : ∀ {vs : List V} {ds : List D} (n : Nat), Reps G ι L H vs ds → Reps G ι L H (vs.take n) (ds.take n)
  | _, _, 0, _ => by simp; exact .nil
  | _, _, _ + 1, .nil => by simp; exact .nil
  | _, _, n + 1, .cons h r => .cons h (r.take n)
theorem Reps.drop {L : Addr → Prop} : ∀ {vs : List V} {ds : List D} (n : Nat), Reps G ι L H vs ds → Reps G ι L H (vs.drop n) (ds.drop n)
  | _, _, 0, r => r
  | _, _, _ + 1, .nil => by simp; exact .nil
  | _, _, n + 1, .cons _ r => r.drop n
theorem Reps.set {L : Addr → Prop} {v : V} {d : D} (h : Rep G ι L H v d) : ∀ {vs : List V} {ds : List D} (n : Nat), Reps G ι L H vs ds → Reps G ι L H (vs.set n v) (ds.set n d)
  | _, _, _, .nil => .nil
  | _, _, 0, .cons _ r => .cons h r
  | _, _, n + 1, .cons q r => .cons q (Reps.set h n r)
theorem Reps.rev {L : Addr → Prop} : ∀ {vs : List V} {ds : List D}, Reps G ι L H vs ds → Reps G ι L H vs.reverse ds.reverse
  | _, _, .nil => .nil
  | _, _, .cons h r => by
    rw [List.reverse_cons, List.reverse_cons]
    exact r.rev.app (.cons h .nil)
theorem Reps.repl {L : Addr → Prop} {vs : List V} {ds : List D} (r : Reps G ι L H vs ds) : ∀ n : Nat, Reps G ι L H (List.replicate n vs).flatten (List.replicate n ds).flatten
  | 0 => .nil
  | n + 1 => by
    rw [List.replicate_succ, List.replicate_succ, List.flatten_cons, List.flatten_cons]
    exact r.app (r.repl n)
theorem Reps.len_le {L : Addr → Prop} {vs : List V} {ds : List D} (r : Reps G ι L H vs ds) {n : Nat} (h : ds.length ≤ n) : vs.length ≤ n := by
  rw [r.length]
  exact h
theorem Rel.live_trk (R : Rel G ι S H) {a : Addr} (h : Liv ι S a) : ∃ o, H a = some o := by
  obtain ⟨n, c, h1, _⟩ := h
  exact R.trk a (List.mem_of_getElem? h1)
theorem Rel.freshL (R : Rel G ι S H) {a : Addr} (h : H a = none) : ¬ Lv ι S a := fun z => by
  rcases z with z | z
  · obtain ⟨o, e⟩ := R.live_trk z
    rw [h] at e
    cases e
  · obtain ⟨⟨o, e, _⟩, _⟩ := R.ztr a z
    rw [h] at e
    cases e
theorem CellIs.mono (e : Ext ι S H ι' S' H') {a : Addr} {c : Cell} (h : CellIs G ι (Lv ι S) H a c) (k : H' a = H a) : CellIs G ι' (Lv ι' S') H' a c := by
  cases c with
  | lst ds =>
    obtain ⟨vs, h1, h2⟩ := h
    exact ⟨vs, k.trans h1, h2.mono e⟩
  | dK ds =>
    obtain ⟨vs, h1, h3, h2⟩ := h
    exact ⟨vs, k.trans h1, h3, h2.mono e⟩
  | dT ds =>
    obtain ⟨vs, h1, h3, h2⟩ := h
    exact ⟨vs, k.trans h1, h3, h2.mono e⟩
  | ins c fs =>
    obtain ⟨dx, nfs, h1, h3, h2⟩ := h
    exact ⟨dx, nfs, k.trans h1, h3, h2.mono e⟩
/-! ### the steps of a state -/
/-- objects are laid that the store does not know -/
theorem Ext.same (k : ∀ a o, H a = some o → H' a = some o) : Ext ι S H ι S H' := ⟨⟨[], by simp⟩, fun _ h => h, fun _ h => .inl h, fun a o h => ⟨o, k a o h⟩, fun _ h => .inl h, fun a o h _ => k a o h⟩
theorem Rel.same (R : Rel G ι S H) (k : ∀ a o, H a = some o → H' a = some o) : Rel G ι S H' := by
  refine ⟨R.len, R.nd, fun n c h => ?_, fun a h => ?_, fun a h => ?_⟩
  · obtain ⟨a, h1, h2⟩ := R.cell n c h
    refine ⟨a, h1, h2.mono (Ext.same k) ?_⟩
    obtain ⟨o, e⟩ := R.trk a (List.mem_of_getElem? h1)
    rw [e, k a o e]
  · obtain ⟨o, e⟩ := R.trk a h
    exact ⟨o, k a o e⟩
  · obtain ⟨⟨o, e, n⟩, q⟩ := R.ztr a h
    exact ⟨⟨o, k a _ e, n⟩, q⟩
theorem keepNew {p : Addr} {o : HO} (h : H p = none) : ∀ a u, H a = some u → upd H p o a = some u := fun a u e => by
  rw [upd_ne (ne_of_none e h)]
  exact e
/-- a new live cell -/
abbrev Ix.snoc (ι : Ix) (p : Addr) : Ix := ⟨ι.l ++ [p], ι.z⟩
theorem Ext.new (R : Rel G ι S H) {p : Addr} {o : HO} {c : Cell} (hp : H p = none) : Ext ι S H (ι.snoc p) (S ++ [some c]) (upd H p o) := by
  refine ⟨⟨[p], rfl⟩, fun _ h => h, fun _ h => .inl h, fun a u e => ⟨u, keepNew hp a u e⟩, fun a z => ?_, fun a u e _ => keepNew hp a u e⟩
  obtain ⟨n, c', h1, h2⟩ := z
  have h1 : (ι.l ++ [p])[n]? = some a := h1
  by_cases hlt : n < S.length
  · rw [List.getElem?_append_left hlt] at h2
    rw [List.getElem?_append_left (by rw [R.len]; exact hlt)] at h1
    exact .inl ⟨n, c', h1, h2⟩
  · have hn : n < (S ++ [some c]).length := (List.getElem?_eq_some_iff.mp h2).1
    have e : n = ι.l.length := by
      rw [R.len]
      simp at hn
      omega
    subst e
    simp at h1
    exact .inr (h1 ▸ hp)
theorem Rel.new (R : Rel G ι S H) {p : Addr} {o : HO} {c : Cell} (hp : H p = none) (hc : CellIs G (ι.snoc p) (Lv (ι.snoc p) (S ++ [some c])) (upd H p o) p c) : Rel G (ι.snoc p) (S ++ [some c]) (upd H p o) := by
  have x : Ext ι S H (ι.snoc p) (S ++ [some c]) (upd H p o) := Ext.new R hp
  have hn : p ∉ ι.l := fun z => by
    obtain ⟨o, e⟩ := R.trk p z
    rw [hp] at e
    cases e
  refine ⟨by simp [R.len], ?_, fun n c' h => ?_, fun a ha => ?_, fun a z => ?_⟩
  · show (ι.l ++ [p]).Nodup
    rw [List.nodup_append]
    refine ⟨R.nd, by simp, ?_⟩
    intro a ha b hb z
    simp at hb
    exact hn (by rw [← hb, ← z]; exact ha)
  · by_cases hlt : n < S.length
    · rw [List.getElem?_append_left hlt] at h
      obtain ⟨a, h1, h2⟩ := R.cell n c' h
      refine ⟨a, x.idx h1, h2.mono x ?_⟩
      exact upd_ne fun e => hn (e ▸ List.mem_of_getElem? h1)
    · have hl : n < (S ++ [some c]).length := (List.getElem?_eq_some_iff.mp h).1
      have e : n = S.length := by
        simp at hl
        omega
      subst e
      simp at h
      subst h
      refine ⟨p, ?_, hc⟩
      show (ι.l ++ [p])[S.length]? = some p
      rw [← R.len]
      simp
  · rcases List.mem_append.mp ha with ha | ha
    · obtain ⟨u, e⟩ := R.trk a ha
      exact ⟨u, keepNew hp a u e⟩
    · simp at ha
      rw [ha]
      exact ⟨o, upd_same⟩
  · obtain ⟨⟨u, e, n⟩, q⟩ := R.ztr a z
    refine ⟨⟨u, keepNew hp a _ e, n⟩, fun hm => ?_⟩
    rcases List.mem_append.mp hm with hm | hm
    · exact q hm
    · simp at hm
      rw [hm, hp] at e
      cases e
theorem nodup_eq {α : Type} : ∀ {l : List α} {i j : Nat} {a : α}, l.Nodup → l[i]? = some a → l[j]? = some a → i = j
  | [], _, _, _, _, h, _ => by simp at h
  | x :: l, 0, 0, _, _, _, _ => rfl
  | x :: l, 0, j + 1, a, nd, h, h' => by
    simp at h h'
    exact absurd (h ▸ List.mem_of_getElem? h') (List.nodup_cons.mp nd).1
  | x :: l, i + 1, 0, a, nd, h, h' => by
    simp at h h'
    exact absurd (h' ▸ List.mem_of_getElem? h) (List.nodup_cons.mp nd).1
  | x :: l, i + 1, j + 1, a, nd, h, h' => congrArg Nat.succ (nodup_eq (List.nodup_cons.mp nd).2 (by simpa using h) (by simpa using h'))
/-- a live cell is written -/
theorem liv_set {n : Nat} {c0 c : Cell} (hs : S[n]? = some (some c0)) (a : Addr) : Liv ι (S.set n (some c)) a ↔ Liv ι S a := by
  constructor
  · rintro ⟨m, c', h1, h2⟩
    by_cases e : n = m
    · subst e
      exact ⟨n, c0, h1, hs⟩
    · rw [List.getElem?_set_ne e] at h2
      exact ⟨m, c', h1, h2⟩
  · rintro ⟨m, c', h1, h2⟩
    by_cases e : n = m
    · subst e
      exact ⟨n, c, h1, by rw [List.getElem?_set_self (List.getElem?_eq_some_iff.mp hs).1]⟩
    · exact ⟨m, c', h1, by rw [List.getElem?_set_ne e]; exact h2⟩
theorem Ext.write {n : Nat} {a : Addr} {c0 c : Cell} {o : HO} (hn : ι.l[n]? = some a) (hs : S[n]? = some (some c0)) : Ext ι S H ι (S.set n (some c)) (upd H a o) := by
  refine ⟨⟨[], by simp⟩, fun _ h => h, fun _ h => .inl h, fun b u e => ?_, fun b z => .inl ((liv_set hs b).mp z), fun b u e hl => ?_⟩
  · by_cases q : b = a
    · exact ⟨o, by rw [q]; exact upd_same⟩
    · exact ⟨u, by rw [upd_ne q]; exact e⟩
  rw [upd_ne]
  · exact e
  · rintro rfl
    exact hl ⟨n, c0, hn, hs⟩
theorem Rel.write (R : Rel G ι S H) {n : Nat} {a : Addr} {c0 c : Cell} {o : HO} (hn : ι.l[n]? = some a) (hs : S[n]? = some (some c0)) (hc : CellIs G ι (Lv ι (S.set n (some c))) (upd H a o) a c) : Rel G ι (S.set n (some c)) (upd H a o) := by
  have x : Ext ι S H ι (S.set n (some c)) (upd H a o) := Ext.write hn hs
  refine ⟨by simp [R.len], R.nd, fun m c' h => ?_, fun b hb => ?_, fun b z => ?_⟩
  · by_cases e : n = m
    · subst e
      rw [List.getElem?_set_self (List.getElem?_eq_some_iff.mp hs).1] at h
      cases h
      exact ⟨a, hn, hc⟩
    · rw [List.getElem?_set_ne e] at h
      obtain ⟨b, h1, h2⟩ := R.cell m c' h
      refine ⟨b, h1, h2.mono x (upd_ne fun z => e ?_)⟩
      subst z
      exact nodup_eq R.nd hn h1
  · by_cases e : b = a
    · subst e
      exact ⟨o, upd_same⟩
    · obtain ⟨u, q⟩ := R.trk b hb
      exact ⟨u, by rw [upd_ne e]; exact q⟩
  · obtain ⟨⟨u, q, n⟩, r⟩ := R.ztr b z
    refine ⟨⟨u, ?_, n⟩, r⟩
    rw [upd_ne]
    · exact q
    · rintro rfl
      exact r (List.mem_of_getElem? hn)
/-- a live cell is frozen: it will not change any more -/
theorem liv_kill {n : Nat} {a : Addr} (h : Liv ι (S.set n none) a) : Liv ι S a := by
  obtain ⟨m, c', h1, h2⟩ := h
  by_cases e : n = m
  · subst e
    rw [List.getElem?_set] at h2
    simp at h2
  · rw [List.getElem?_set_ne e] at h2
    exact ⟨m, c', h1, h2⟩
theorem Ext.kill {n : Nat} : Ext ι S H ι (S.set n none) H := ⟨⟨[], by simp⟩, fun _ h => h, fun _ h => .inl h, fun _ o h => ⟨o, h⟩, fun _ z => .inl (liv_kill z), fun _ _ e _ => e⟩
theorem Rel.kill (R : Rel G ι S H) {n : Nat} : Rel G ι (S.set n none) H := by
  have x : Ext ι S H ι (S.set n none) H := Ext.kill
  refine ⟨by simp [R.len], R.nd, fun m c' h => ?_, R.trk, R.ztr⟩
  by_cases e : n = m
  · subst e
    rw [List.getElem?_set] at h
    simp at h
  · rw [List.getElem?_set_ne e] at h
    obtain ⟨b, h1, h2⟩ := R.cell m c' h
    exact ⟨b, h1, h2.mono x rfl⟩
theorem Rel.killed (R : Rel G ι S H) {n : Nat} {a : Addr} (hn : ι.l[n]? = some a) : ¬ Lv ι (S.set n none) a := by
  rintro (z | z)
  · obtain ⟨m, c', h1, h2⟩ := z
    have e : n = m := nodup_eq R.nd hn h1
    subst e
    rw [List.getElem?_set] at h2
    simp at h2
  · exact (R.ztr a z).2 (List.mem_of_getElem? hn)
/-- something is being built at p -/
abbrev Ix.hide (ι : Ix) (p : Addr) : Ix := ⟨ι.l, fun a => ι.z a ∨ a = p⟩
mutual
theorem Rep.weak {L L' : Addr → Prop} (h : ∀ a, L' a → L a) (hl : ι'.l = ι.l) : ∀ {v : V} {d : D}, Rep G ι L H v d → Rep G ι' L' H v d
  | _, _, .non => .non
  | _, _, .bl b => .bl b
  | _, _, .int i => .int i
  | _, _, .str x => .str x
  | _, _, .con a => .con a
  | _, _, .ty n => .ty n
  | _, _, .tup q k r => .tup q (fun z => k (h _ z)) (r.weak h hl)
  | _, _, .wtp q r => .wtp q (r.weak h hl)
  | _, _, .lst q k r => .lst q (fun z => k (h _ z)) (r.weak h hl)
  | _, _, .scr (.inl q) r => .scr (.inl ⟨q.1, fun z => q.2 (h _ z)⟩) (r.weak h hl)
  | _, _, .scr (.inr q) r => .scr (.inr q) (r.weak h hl)
  | _, _, .dK q k e r => .dK q (fun z => k (h _ z)) e (r.weak h hl)
  | _, _, .dT q k e r => .dT q (fun z => k (h _ z)) e (r.weak h hl)
  | _, _, .obj q k e r => .obj q (fun z => k (h _ z)) e (r.weak h hl)
  | _, _, .ref q => .ref (by rw [hl]; exact q)
  | _, _, .err q1 q2 k r => .err q1 q2 (fun z => k (h _ z)) (r.weak h hl)
theorem Reps.weak {L L' : Addr → Prop} (h : ∀ a, L' a → L a) (hl : ι'.l = ι.l) : ∀ {vs : List V} {ds : List D}, Reps G ι L H vs ds → Reps G ι' L' H vs ds
  | _, _, .nil => .nil
  | _, _, .cons q r => .cons (q.weak h hl) (r.weak h hl)
end
end
end DL
set_option Elab.async false
set_option linter.all false
set_option maxRecDepth 100000
set_option maxHeartbeats 4000000
/-! DL1: what a reading computes, as a function of slots and store; the judgements and the plain rules -/
namespace DL
open PySem PySem.Spec PyProof.Rows L2
abbrev ECode := Env → Sto → Res D
abbrev TCode := Env → Sto → Res Bool
abbrev ACode := Env → Sto → Res (List D)
inductive Flo where
  | nx (ρ : Env) | rt (d : D) | bk (ρ : Env) | ct (ρ : Env)
abbrev SCode := Env → Sto → Res Flo
section
variable (G : Gx) (E : XK) (ι : Ix) (S : Sto) (H : Hp)
/-- what is wanted behind -/
def Post {α : Type} (P : α → Ix → Sto → Hp → Prop) : Res α → Prop
  | .ok a S' => ∀ ι' H', Ext ι S H ι' S' H' → Rel G ι' S' H' → P a ι' S' H'
  | .ex c d S' => ∀ ι' H' dd v, Ext ι S H ι' S' H' → Rel G ι' S' H' → H' dd = some (.xd [(G.exf c, v)]) → ¬ Lv ι' S' dd → Rep G ι' (Lv ι' S') H' v d → E (.ref (G.exc c)) (some dd) H'
  | .stuck => False
/-- the slots bear the environment -/
structure REnv (σ : L2.St) (ρ : Env) : Prop where
  len : σ.length = ρ.length
  at_ : ∀ (i : Nat) (d : D), ρ[i]? = some (some d) → ∃ v, σ[i]? = some (some v) ∧ Rep G ι (Lv ι S) H v d
end
def PV (G : Gx) (Q : VK) : D → Ix → Sto → Hp → Prop := fun d ι S H => ∀ v, Rep G ι (Lv ι S) H v d → Q v H
def PVs (G : Gx) (Q : List V → Hp → Prop) : List D → Ix → Sto → Hp → Prop := fun ds ι S H => ∀ vs, Reps G ι (Lv ι S) H vs ds → Q vs H
def PB (Q : Bool → Hp → Prop) : Bool → Ix → Sto → Hp → Prop := fun b _ _ H => Q b H
def PF (G : Gx) (Dn : Ends) : Flo → Ix → Sto → Hp → Prop
  | .nx ρ, ι, S, H => ∀ σ, REnv G ι S H σ ρ → Dn.nx σ H
  | .rt d, ι, S, H => ∀ v, Rep G ι (Lv ι S) H v d → Dn.rt v H
  | .bk ρ, ι, S, H => ∀ σ, REnv G ι S H σ ρ → Dn.bk σ H
  | .ct ρ, ι, S, H => ∀ σ, REnv G ι S H σ ρ → Dn.ct σ H
section
variable {G : Gx} {E : XK} {ι ι' ι1 : Ix} {S S' S1 : Sto} {H H' H1 : Hp} {σ : L2.St} {ρ : Env}
theorem REnv.mono (e : Ext ι S H ι' S' H') (h : REnv G ι S H σ ρ) : REnv G ι' S' H' σ ρ := ⟨h.len, fun i d q => by
  obtain ⟨v, h1, h2⟩ := h.at_ i d q
  exact ⟨v, h1, h2.mono e⟩⟩
theorem REnv.set {v : V} {d : D} (h : REnv G ι S H σ ρ) (r : Rep G ι (Lv ι S) H v d) (i : Nat) : REnv G ι S H (σ.set i (some v)) (ρ.set i (some d)) := by
  refine ⟨by simp [h.len], fun j e q => ?_⟩
  rw [List.getElem?_set] at q ⊢
  by_cases hi : i = j
  · subst hi
    rw [if_pos rfl] at q ⊢
    by_cases hl : i < ρ.length
    · rw [if_pos hl] at q
      cases q
      rw [if_pos (by rw [h.len]; exact hl)]
      exact ⟨v, rfl, r⟩
    · rw [if_neg hl] at q
      cases q
  · rw [if_neg hi] at q ⊢
    exact h.at_ j e q
theorem Post.back {α : Type} {P : α → Ix → Sto → Hp → Prop} (x : Ext ι S H ι1 S1 H1) {r : Res α} (p : Post G E ι S H P r) : Post G E ι1 S1 H1 P r := by
  cases r with
  | ok a S2 => exact fun ι2 H2 y R => p ι2 H2 (x.trans y) R
  | ex c d S2 => exact fun ι2 H2 dd v y R => p ι2 H2 dd v (x.trans y) R
  | stuck => exact p
theorem Post.imp {α : Type} {P P' : α → Ix → Sto → Hp → Prop} {r : Res α} (p : Post G E ι S H P r) (h : ∀ a S' ι' H', Ext ι S H ι' S' H' → Rel G ι' S' H' → P a ι' S' H' → P' a ι' S' H') : Post G E ι S H P' r := by
  cases r with
  | ok a S2 => exact fun ι2 H2 y R => h a S2 ι2 H2 y R (p ι2 H2 y R)
  | ex c d S2 => exact p
  | stuck => exact p
/-- one thing behind another -/
theorem Post.bind {α β : Type} {P : α → Ix → Sto → Hp → Prop} {P' : β → Ix → Sto → Hp → Prop} {r : Res α} {k : α → Sto → Res β} (p : Post G E ι S H P' (r.bind k))
    (hk : ∀ a S1 ι1 H1, Ext ι S H ι1 S1 H1 → Rel G ι1 S1 H1 → Post G E ι1 S1 H1 P' (k a S1) → P a ι1 S1 H1) : Post G E ι S H P r := by
  cases r with
  | ok a S2 => exact fun ι2 H2 y R => hk a S2 ι2 H2 y R (Post.back y p)
  | ex c d S2 => exact p
  | stuck => exact p
theorem Post.here {α : Type} {P : α → Ix → Sto → Hp → Prop} {a : α} (R : Rel G ι S H) (p : Post G E ι S H P (.ok a S)) : P a ι S H := p ι H Ext.refl R
end
/-! ### what a reading computes -/
abbrev WK := L2.St → XK
def Snd (G : Gx) (E : WK) (t : TE) (c : ECode) : Prop := ∀ ι S H σ ρ Q, Rel G ι S H → REnv G ι S H σ ρ → Post G (E σ) ι S H (PV G Q) (c ρ S) → t σ H Q
def SndT (G : Gx) (E : WK) (t : TT) (c : TCode) : Prop := ∀ ι S H σ ρ Q, Rel G ι S H → REnv G ι S H σ ρ → Post G (E σ) ι S H (PB Q) (c ρ S) → t σ H Q
def SndA (G : Gx) (E : WK) (t : TA) (c : ACode) : Prop := ∀ ι S H σ ρ Q, Rel G ι S H → REnv G ι S H σ ρ → Post G (E σ) ι S H (PVs G Q) (c ρ S) → t σ H Q
def SndS (G : Gx) (E : WK) (t : TS) (c : SCode) : Prop := ∀ ι S H σ ρ Dn, Rel G ι S H → REnv G ι S H σ ρ → Post G (E σ) ι S H (PF G Dn) (c ρ S) → t Dn σ H
section
variable {G : Gx} {E : WK} {ι : Ix} {S : Sto} {H : Hp} {σ : L2.St} {ρ : Env}
theorem Snd.go {t : TE} {c : ECode} (h : Snd G E t c) (R : Rel G ι S H) (e : REnv G ι S H σ ρ) {β : Type} {k : D → Sto → Res β} {P : β → Ix → Sto → Hp → Prop} {Q : VK} (p : Post G (E σ) ι S H P ((c ρ S).bind k))
    (hk : ∀ d S1 ι1 H1 v, Ext ι S H ι1 S1 H1 → Rel G ι1 S1 H1 → REnv G ι1 S1 H1 σ ρ → Rep G ι1 (Lv ι1 S1) H1 v d → Post G (E σ) ι1 S1 H1 P (k d S1) → Q v H1) : t σ H Q :=
  h ι S H σ ρ Q R e (Post.bind p fun d S1 ι1 H1 x R1 q v r => hk d S1 ι1 H1 v x R1 (e.mono x) r q)
theorem SndT.go {t : TT} {c : TCode} (h : SndT G E t c) (R : Rel G ι S H) (e : REnv G ι S H σ ρ) {β : Type} {k : Bool → Sto → Res β} {P : β → Ix → Sto → Hp → Prop} {Q : Bool → Hp → Prop} (p : Post G (E σ) ι S H P ((c ρ S).bind k))
    (hk : ∀ b S1 ι1 H1, Ext ι S H ι1 S1 H1 → Rel G ι1 S1 H1 → REnv G ι1 S1 H1 σ ρ → Post G (E σ) ι1 S1 H1 P (k b S1) → Q b H1) : t σ H Q :=
  h ι S H σ ρ Q R e (Post.bind p fun b S1 ι1 H1 x R1 q => hk b S1 ι1 H1 x R1 (e.mono x) q)
theorem SndA.go {t : TA} {c : ACode} (h : SndA G E t c) (R : Rel G ι S H) (e : REnv G ι S H σ ρ) {β : Type} {k : List D → Sto → Res β} {P : β → Ix → Sto → Hp → Prop} {Q : List V → Hp → Prop} (p : Post G (E σ) ι S H P ((c ρ S).bind k))
    (hk : ∀ ds S1 ι1 H1 vs, Ext ι S H ι1 S1 H1 → Rel G ι1 S1 H1 → REnv G ι1 S1 H1 σ ρ → Reps G ι1 (Lv ι1 S1) H1 vs ds → Post G (E σ) ι1 S1 H1 P (k ds S1) → Q vs H1) : t σ H Q :=
  h ι S H σ ρ Q R e (Post.bind p fun ds S1 ι1 H1 x R1 q vs r => hk ds S1 ι1 H1 vs x R1 (e.mono x) r q)
end
/-! ### the judgements, over a family of contexts -/
structure FamH {I : Type} (Xs : I → Cx) (G : Gx) (E : WK) : Prop where
  P : ∀ i, (Xs i).prog = G.P
  w : ∀ i, (Xs i).w = G.w
  K : ∀ i, (Xs i).K = G.K
  mg : ∀ i, (Xs i).mg = G.mg
  base : ∀ i, (Xs i).base = G.base
  nd : ∀ i, (Xs i).N.Nodup
  gd : ∀ i, (Xs i).A.guards = some []
  u64 : ∀ i, (Xs i).A.units + 64 < cLine
  take : ∀ i, Takes (Xs i) fun cls d σ H => E σ cls d H
structure Fam {I : Type} (Xs : I → Cx) (G : Gx) (E : WK) (kk : Nat) : Prop extends FamH Xs G E where
  calm : ∀ i, (Xs i).calm = true
  room : ∀ i, Room kk (Xs i).A
instance {I : Type} {Xs : I → Cx} {G : Gx} {E : WK} {kk : Nat} : CoeOut (Fam Xs G E kk) (FamH Xs G E) := ⟨Fam.toFamH⟩
theorem FamH.hu {I : Type} {Xs : I → Cx} {G : Gx} {E : WK} (F : FamH Xs G E) (j : I) : (Xs j).A.units + 1 < cLine := by have := F.u64 j; omega
theorem FamH.hu64 {I : Type} {Xs : I → Cx} {G : Gx} {E : WK} (F : FamH Xs G E) (j : I) : (Xs j).A.units + 64 < cLine := F.u64 j
theorem Fam.pass {I : Type} {Xs : I → Cx} {G : Gx} {E : WK} {kk : Nat} (F : Fam Xs G E kk) : ∀ i pins σ H s e s', Inv (Xs i) pins σ H s → L2.CX (Xs i).prog (Xs i).w (Xs i).stack H s (E σ) e s' → (Xs i).xe e s' :=
  fun i pins σ H s e s' I c => F.take i e s' (XE.of_call I (fun cls d H' h => h) c)
section
variable {I : Type} (Xs : I → Cx) (G : Gx) (E : WK)
def DE (e : Expr) (c : ECode) : Prop := ∃ t, (∀ i, PE (Xs i) e t) ∧ Snd G E t c
def DT (e : Expr) (c : TCode) : Prop := ∃ t, (∀ i, PT (Xs i) e t) ∧ SndT G E t c
def DW (e : Expr) (c : TCode) : Prop := ∃ t, (∀ i, PW (Xs i) e t) ∧ SndT G E t c
def DA (es : List Expr) (c : ACode) : Prop := ∃ t, (∀ i, PA (Xs i) es t) ∧ SndA G E t c
def DKw (ks : List Keyword) (c : ACode) : Prop := ∃ t, (∀ i, PK (Xs i) ks t) ∧ SndA G E t c
def DS (st : Stmt) (c : SCode) : Prop := ∃ t, (∀ i, PS (Xs i) st t) ∧ SndS G E t c
def DSs (st : List Stmt) (c : SCode) : Prop := ∃ t, (∀ i, PSs (Xs i) st t) ∧ SndS G E t c
end
/-! ### names and constants -/
def c_var (i : Nat) : ECode := fun ρ S => match ρ[i]? with
  | some (some d) => .ok d S
  | _ => .stuck
def c_d (d : D) : ECode := fun _ S => .ok d S
section
variable {I : Type} {Xs : I → Cx} {G : Gx} {E : WK}
theorem de_var {i : Nat} {x : Str} {pos : Pos} (hN : ∀ j, (Xs j).N[i]? = some x) (hv : ∀ j, Vis (Xs j).env.scope x) (hd : (x == ("__debug__" : Str)) = false) (hcd : (x == ("__classdict__" : Str)) = false) : DE Xs G E (.Name x pos) (c_var i) := by
  refine ⟨tVar i, fun j => pe_var (hN j) (hv j) hd hcd, fun ι S H σ ρ Q R e p => ?_⟩
  unfold c_var at p
  split at p
  · rename_i d hd
    obtain ⟨v, h1, h2⟩ := e.at_ i d hd
    exact ⟨v, h1, Post.here R p v h2⟩
  · exact p.elim
theorem snd_c {v : V} {d : D} (h : ∀ ι L H, Rep G ι L H v d) : Snd G E (tC v) (c_d d) := fun ι S H σ ρ Q R e p => Post.here R p v (h _ _ _)
theorem de_int {i j pos} : DE Xs G E (.Constant (.int i) j pos) (c_d (.int i)) := ⟨_, fun _ => pe_int, snd_c fun _ _ _ => .int i⟩
theorem de_bl {b j pos} : DE Xs G E (.Constant (.bool b) j pos) (c_d (.bl b)) := ⟨_, fun _ => pe_bl, snd_c fun _ _ _ => .bl b⟩
theorem de_non {j pos} : DE Xs G E (.Constant .none j pos) (c_d .non) := ⟨_, fun _ => pe_non, snd_c fun _ _ _ => .non⟩
theorem de_str {x j pos} : DE Xs G E (.Constant (.str x) j pos) (c_d (.str x)) := ⟨_, fun _ => pe_str, snd_c fun _ _ _ => .str x⟩
/-- a constant of the module -/
theorem de_glob (F : FamH Xs G E) {x : Str} {v : V} {u : Value} {d : D} {pos : Pos} (hg : ∀ j, Gl (Xs j) x) (hm : G.mg x = some u) (r : RelV v u) (h : ∀ ι L H, Rep G ι L H v d) (hd : (x == ("__debug__" : Str)) = false) : DE Xs G E (.Name x pos) (c_d d) :=
  ⟨_, fun j => pe_glob (hg j) (by rw [F.mg j]; exact hm) r hd, snd_c h⟩
/-! ### operators by values -/
/-- a two-place operation on values computes p -/
def SndR (G : Gx) (r : R2) (p : D → D → Sto → Res D) : Prop := ∀ E ι S H x y dx dy Q, Rel G ι S H → Rep G ι (Lv ι S) H x dx → Rep G ι (Lv ι S) H y dy → Post G E ι S H (PV G Q) (p dx dy S) → r x y H Q
def SndU (G : Gx) (r : V → Hp → VK → Prop) (p : D → Sto → Res D) : Prop := ∀ E ι S H x dx Q, Rel G ι S H → Rep G ι (Lv ι S) H x dx → Post G E ι S H (PV G Q) (p dx S) → r x H Q
/-- a call on values -/
def SndC (G : Gx) (r : List V → Hp → VK → Prop) (p : List D → Sto → Res D) : Prop := ∀ E ι S H xs ds Q, Rel G ι S H → Reps G ι (Lv ι S) H xs ds → Post G E ι S H (PV G Q) (p ds S) → r xs H Q
/-- a method of a built-in type -/
def SndM (G : Gx) (r : V → List V → Hp → VK → Prop) (p : D → List D → Sto → Res D) : Prop := ∀ E ι S H x xs dx ds Q, Rel G ι S H → Rep G ι (Lv ι S) H x dx → Reps G ι (Lv ι S) H xs ds → Post G E ι S H (PV G Q) (p dx ds S) → r x xs H Q
def c_op (p : D → D → Sto → Res D) (a b : ECode) : ECode := fun ρ S => (a ρ S).bind fun x S1 => (b ρ S1).bind fun y S2 => p x y S2
def c_un (p : D → Sto → Res D) (a : ECode) : ECode := fun ρ S => (a ρ S).bind fun x S1 => p x S1
theorem snd_op {r : R2} {p : D → D → Sto → Res D} {ta tb : TE} {a b : ECode} (hr : SndR G r p) (ha : Snd G E ta a) (hb : Snd G E tb b) : Snd G E (tOp r ta tb) (c_op p a b) := fun ι S H σ ρ Q R e q => by
  refine ha.go R e q fun d S1 ι1 H1 v x1 R1 e1 r1 q1 => ?_
  refine hb.go R1 e1 q1 fun d2 S2 ι2 H2 v2 x2 R2 e2 r2 q2 => ?_
  exact hr (E σ) ι2 S2 H2 v v2 d d2 Q R2 (r1.mono x2) r2 q2
theorem snd_un {r : V → Hp → VK → Prop} {p : D → Sto → Res D} {ta : TE} {a : ECode} (hr : SndU G r p) (ha : Snd G E ta a) : Snd G E (tUn r ta) (c_un p a) := fun ι S H σ ρ Q R e q => by
  refine ha.go R e q fun d S1 ι1 H1 v x1 R1 e1 r1 q1 => ?_
  exact hr (E σ) ι1 S1 H1 v d Q R1 r1 q1
theorem de_op {op : Operator} {r : R2} {p : D → D → Sto → Res D} {x y : Expr} {pos : Pos} {a b : ECode} (ho : ∀ j, OpR (Xs j) (binaryOp op) r) (hr : SndR G r p) (ha : DE Xs G E x a) (hb : DE Xs G E y b) : DE Xs G E (.BinOp x op y pos) (c_op p a b) := by
  obtain ⟨ta, pa, sa⟩ := ha
  obtain ⟨tb, pb, sb⟩ := hb
  exact ⟨_, fun j => pe_op (ho j) (pa j) (pb j), snd_op hr sa sb⟩
theorem de_un {op : UnaryOp} {r : V → Hp → VK → Prop} {p : D → Sto → Res D} {x : Expr} {pos : Pos} {a : ECode} (ho : ∀ j, UnR (Xs j) (unaryOp op) r) (hr : SndU G r p) (ha : DE Xs G E x a) : DE Xs G E (.UnaryOp op x pos) (c_un p a) := by
  obtain ⟨ta, pa, sa⟩ := ha
  exact ⟨_, fun j => pe_un (ho j) (pa j), snd_un hr sa⟩
theorem de_cmp {op : CmpOp} {r : R2} {p : D → D → Sto → Res D} {x y : Expr} {pos : Pos} {a b : ECode} (ho : ∀ j, OpR (Xs j) (compareOp op) r) (hr : SndR G r p) (ha : DE Xs G E x a) (hb : DE Xs G E y b) (hm : behindInMarks op y = false) :
    DE Xs G E (.Compare x [op] [y] pos) (c_op p a b) := by
  obtain ⟨ta, pa, sa⟩ := ha
  obtain ⟨tb, pb, sb⟩ := hb
  exact ⟨_, fun j => pe_cmpR (ho j) (pa j) (pb j) hm, snd_op hr sa sb⟩
/-- the truth of a bool -/
def asB : D → Sto → Res Bool
  | .bl b, S => .ok b S
  | _, _ => .stuck
def c_test (a : ECode) : TCode := fun ρ S => (a ρ S).bind asB
theorem Rep.bl_of {ι : Ix} {L : Addr → Prop} {H : Hp} {v : V} {b : Bool} (r : Rep G ι L H v (.bl b)) : v = .bl b := by
  cases r
  rfl
theorem Rep.int_of {ι : Ix} {L : Addr → Prop} {H : Hp} {v : V} {b : Int} (r : Rep G ι L H v (.int b)) : v = .int b := by
  cases r
  rfl
theorem Rep.str_of {ι : Ix} {L : Addr → Prop} {H : Hp} {v : V} {b : Str} (r : Rep G ι L H v (.str b)) : v = .str b := by
  cases r
  rfl
theorem Rep.non_of {ι : Ix} {L : Addr → Prop} {H : Hp} {v : V} (r : Rep G ι L H v .non) : v = .non := by
  cases r
  rfl
theorem snd_test {t : TE} {a : ECode} (ha : Snd G E t a) : SndT G E (fun σ H Q => t σ H fun x H1 => ∃ k, x = .bl k ∧ Q k H1) (c_test a) := fun ι S H σ ρ Q R e q => by
  refine ha.go R e q fun d S1 ι1 H1 v x1 R1 e1 r1 q1 => ?_
  cases d with
  | bl b => exact ⟨b, r1.bl_of, Post.here R1 q1⟩
  | _ => exact q1.elim
theorem dt_cmp {op : CmpOp} {r : R2} {p : D → D → Sto → Res D} {x y : Expr} {pos : Pos} {a b : ECode} (ho : ∀ j, OpR (Xs j) (compareOp op) r) (hr : SndR G r p) (ha : DE Xs G E x a) (hb : DE Xs G E y b) (hm : behindInMarks op y = false) :
    DT Xs G E (.Compare x [op] [y] pos) (c_test (c_op p a b)) := by
  obtain ⟨ta, pa, sa⟩ := ha
  obtain ⟨tb, pb, sb⟩ := hb
  exact ⟨_, fun j => pt_cmpR (ho j) (pa j) (pb j) hm, snd_test (snd_op hr sa sb)⟩
/-- an expression that gives a bool -/
theorem dt_val {x : Expr} {a : ECode} (ha : DE Xs G E x a) (he : ∀ j whole, isTrue x (Xs j).env whole = (do let v ← whole; standAt x.pos; holding [v] (truthy v))) : DT Xs G E x (c_test a) := by
  obtain ⟨ta, pa, sa⟩ := ha
  exact ⟨_, fun j => pt_val (pa j) (he j), snd_test sa⟩
/-! ### and, or, not, if -/
def c_and (a b : TCode) : TCode := fun ρ S => (a ρ S).bind fun c S1 => if c = true then b ρ S1 else .ok false S1
def c_or (a b : TCode) : TCode := fun ρ S => (a ρ S).bind fun c S1 => if c = true then .ok true S1 else b ρ S1
def c_not (a : TCode) : TCode := fun ρ S => (a ρ S).bind fun c S1 => .ok (!c) S1
def c_if (c : TCode) (a b : ECode) : ECode := fun ρ S => (c ρ S).bind fun k S1 => if k = true then a ρ S1 else b ρ S1
def c_andV (a b : ECode) : ECode := fun ρ S => (a ρ S).bind fun x S1 => (asB x S1).bind fun c S2 => if c = true then b ρ S2 else .ok (.bl false) S2
def c_orV (a b : ECode) : ECode := fun ρ S => (a ρ S).bind fun x S1 => (asB x S1).bind fun c S2 => if c = true then .ok (.bl true) S2 else b ρ S2
def c_notV (a : ECode) : ECode := fun ρ S => (a ρ S).bind fun x S1 => (asB x S1).bind fun c S2 => .ok (.bl (!c)) S2
theorem dw_and1 {op} {x : Expr} {pos : Pos} {a : TCode} (ha : DT Xs G E x a) (ho : op = BoolOp.And) : DW Xs G E (.BoolOp op [x] pos) a := by
  subst ho
  obtain ⟨ta, pa, sa⟩ := ha
  exact ⟨_, fun j => pw_and1 (pa j), sa⟩
theorem dw_or1 {op} {x : Expr} {pos : Pos} {a : TCode} (ha : DT Xs G E x a) (ho : op = BoolOp.Or) : DW Xs G E (.BoolOp op [x] pos) a := by
  subst ho
  obtain ⟨ta, pa, sa⟩ := ha
  exact ⟨_, fun j => pw_or1 (pa j), sa⟩
theorem dw_and {x y : Expr} {rest : List Expr} {pos : Pos} {a b : TCode} (ha : DT Xs G E x a) (hb : DW Xs G E (.BoolOp .And (y :: rest) pos) b) : DW Xs G E (.BoolOp .And (x :: y :: rest) pos) (c_and a b) := by
  obtain ⟨ta, pa, sa⟩ := ha
  obtain ⟨tb, pb, sb⟩ := hb
  refine ⟨_, fun j => pw_and (pa j) (pb j), fun ι S H σ ρ Q R e q => ?_⟩
  refine sa.go R e q fun c S1 ι1 H1 x1 R1 e1 q1 => ?_
  cases c with
  | true =>
    rw [if_pos rfl] at q1 ⊢
    exact sb ι1 S1 H1 σ ρ Q R1 e1 q1
  | false =>
    rw [if_neg Bool.false_ne_true] at q1 ⊢
    exact Post.here R1 q1
theorem dw_or {x y : Expr} {rest : List Expr} {pos : Pos} {a b : TCode} (ha : DT Xs G E x a) (hb : DW Xs G E (.BoolOp .Or (y :: rest) pos) b) : DW Xs G E (.BoolOp .Or (x :: y :: rest) pos) (c_or a b) := by
  obtain ⟨ta, pa, sa⟩ := ha
  obtain ⟨tb, pb, sb⟩ := hb
  refine ⟨_, fun j => pw_or (pa j) (pb j), fun ι S H σ ρ Q R e q => ?_⟩
  refine sa.go R e q fun c S1 ι1 H1 x1 R1 e1 q1 => ?_
  cases c with
  | true =>
    rw [if_pos rfl] at q1 ⊢
    exact Post.here R1 q1
  | false =>
    rw [if_neg Bool.false_ne_true] at q1 ⊢
    exact sb ι1 S1 H1 σ ρ Q R1 e1 q1
theorem dt_w {x : Expr} {a : TCode} (h : DW Xs G E x a) : DT Xs G E x a := by
  obtain ⟨t, p, s⟩ := h
  exact ⟨t, fun j => (p j).pt, s⟩
theorem dt_not {x : Expr} {pos : Pos} {a : TCode} (ha : DT Xs G E x a) : DT Xs G E (.UnaryOp .Not x pos) (c_not a) := by
  obtain ⟨ta, pa, sa⟩ := ha
  refine ⟨_, fun j => pt_not (pa j), fun ι S H σ ρ Q R e q => ?_⟩
  exact sa.go R e q fun c S1 ι1 H1 x1 R1 e1 q1 => Post.here R1 q1
theorem de_if {c x y : Expr} {pos : Pos} {k : TCode} {a b : ECode} (hc : DT Xs G E c k) (ha : DE Xs G E x a) (hb : DE Xs G E y b) : DE Xs G E (.IfExp c x y pos) (c_if k a b) := by
  obtain ⟨tc, pc, sc⟩ := hc
  obtain ⟨ta, pa, sa⟩ := ha
  obtain ⟨tb, pb, sb⟩ := hb
  refine ⟨_, fun j => pe_ifExp (pc j) (pa j) (pb j), fun ι S H σ ρ Q R e q => ?_⟩
  refine sc.go R e q fun c S1 ι1 H1 x1 R1 e1 q1 => ?_
  cases c with
  | true =>
    rw [if_pos rfl] at q1 ⊢
    exact sa ι1 S1 H1 σ ρ Q R1 e1 q1
  | false =>
    rw [if_neg Bool.false_ne_true] at q1 ⊢
    exact sb ι1 S1 H1 σ ρ Q R1 e1 q1
theorem de_one {op} {x : Expr} {pos : Pos} {a : ECode} (ha : DE Xs G E x a) : DE Xs G E (.BoolOp op [x] pos) a := by
  obtain ⟨ta, pa, sa⟩ := ha
  exact ⟨_, fun j => pe_one (pa j), sa⟩
theorem de_and {x y : Expr} {rest : List Expr} {pos : Pos} {a b : ECode} (ha : DE Xs G E x a) (hb : DE Xs G E (.BoolOp .And (y :: rest) pos) b) : DE Xs G E (.BoolOp .And (x :: y :: rest) pos) (c_andV a b) := by
  obtain ⟨ta, pa, sa⟩ := ha
  obtain ⟨tb, pb, sb⟩ := hb
  refine ⟨_, fun j => pe_and (pa j) (pb j), fun ι S H σ ρ Q R e q => ?_⟩
  refine sa.go R e q fun d S1 ι1 H1 v x1 R1 e1 r1 q1 => ?_
  cases d with
  | bl c =>
    refine ⟨c, r1.bl_of, ?_⟩
    have q2 : Post G (E σ) ι1 S1 H1 (PV G Q) (if c = true then b ρ S1 else .ok (.bl false) S1) := q1
    cases c with
    | true =>
      rw [if_pos rfl] at q2 ⊢
      exact sb ι1 S1 H1 σ ρ Q R1 e1 q2
    | false =>
      rw [if_neg Bool.false_ne_true] at q2 ⊢
      exact Post.here R1 q2 _ (.bl false)
  | _ => exact q1.elim
theorem de_not {x : Expr} {pos : Pos} {a : ECode} (ha : DE Xs G E x a) : DE Xs G E (.UnaryOp .Not x pos) (c_notV a) := by
  obtain ⟨ta, pa, sa⟩ := ha
  refine ⟨_, fun j => pe_not (pa j), fun ι S H σ ρ Q R e q => ?_⟩
  refine sa.go R e q fun d S1 ι1 H1 v x1 R1 e1 r1 q1 => ?_
  cases d with
  | bl c => exact ⟨c, r1.bl_of, Post.here R1 q1 _ (.bl _)⟩
  | _ => exact q1.elim
/-! ### chains -/
def c_chain (p p' : D → D → Sto → Res D) (a b c : ECode) : ECode := fun ρ S => (a ρ S).bind fun x S1 => (b ρ S1).bind fun y S2 => (p x y S2).bind fun z S3 => (asB z S3).bind fun k S4 =>
  if k = true then (c ρ S4).bind fun w S5 => p' y w S5 else .ok (.bl false) S4
theorem SndR.go {r : R2} {p : D → D → Sto → Res D} (h : SndR G r p) {E : XK} {ι : Ix} {S : Sto} {H : Hp} {x y : V} {dx dy : D} (R : Rel G ι S H) (rx : Rep G ι (Lv ι S) H x dx) (ry : Rep G ι (Lv ι S) H y dy)
    {β : Type} {k : D → Sto → Res β} {P : β → Ix → Sto → Hp → Prop} {Q : VK} (q : Post G E ι S H P ((p dx dy S).bind k))
    (hk : ∀ d S1 ι1 H1 v, Ext ι S H ι1 S1 H1 → Rel G ι1 S1 H1 → Rep G ι1 (Lv ι1 S1) H1 v d → Post G E ι1 S1 H1 P (k d S1) → Q v H1) : r x y H Q :=
  h E ι S H x y dx dy Q R rx ry (Post.bind q fun d S1 ι1 H1 x R1 q v r => hk d S1 ι1 H1 v x R1 r q)
theorem de_chain {op op' : CmpOp} {r r' : R2} {p p' : D → D → Sto → Res D} {x y z : Expr} {pos : Pos} {a b c : ECode} (ho : ∀ j, OpR (Xs j) (compareOp op) r) (hr : SndR G r p) (ho' : ∀ j, OpR (Xs j) (compareOp op') r') (hr' : SndR G r' p')
    (ha : DE Xs G E x a) (hb : DE Xs G E y b) (hc : DE Xs G E z c) (hm : lastMarks [op, op'] [y, z] = false) : DE Xs G E (.Compare x [op, op'] [y, z] pos) (c_chain p p' a b c) := by
  obtain ⟨ta, pa, sa⟩ := ha
  obtain ⟨tb, pb, sb⟩ := hb
  obtain ⟨tc, pc, sc⟩ := hc
  refine ⟨tChain r r' ta tb tc, fun j => pe_chain (ho j) (ho' j) (pa j) (pb j) (pc j) hm, fun ι S H σ ρ Q R e q => ?_⟩
  refine sa.go R e q fun d S1 ι1 H1 v x1 R1 e1 r1 q1 => ?_
  refine sb.go R1 e1 q1 fun d2 S2 ι2 H2 v2 x2 R2 e2 r2 q2 => ?_
  refine hr.go R2 (r1.mono x2) r2 q2 fun d3 S3 ι3 H3 v3 x3 R3 r3 q3 => ?_
  cases d3 with
  | bl k =>
    refine ⟨k, r3.bl_of, ?_⟩
    have q4 : Post G (E σ) ι3 S3 H3 (PV G Q) (if k = true then (c ρ S3).bind fun w S5 => p' d2 w S5 else .ok (.bl false) S3) := q3
    cases k with
    | true =>
      rw [if_pos rfl] at q4 ⊢
      refine sc.go R3 (e2.mono x3) q4 fun d5 S5 ι5 H5 v5 x5 R5 e5 r5 q5 => ?_
      exact hr' (E σ) ι5 S5 H5 v2 v5 d2 d5 Q R5 ((r2.mono x3).mono x5) r5 q5
    | false =>
      rw [if_neg Bool.false_ne_true] at q4 ⊢
      exact Post.here R3 q4 _ (.bl false)
  | _ => exact q3.elim
/-! ### arguments, displays -/
def c_nil : ACode := fun _ S => .ok [] S
def c_cons (a : ECode) (r : ACode) : ACode := fun ρ S => (a ρ S).bind fun x S1 => (r ρ S1).bind fun xs S2 => .ok (x :: xs) S2
theorem snd_nil : SndA G E tNil c_nil := fun ι S H σ ρ Q R e q => Post.here R q _ .nil
theorem snd_cons {te : TE} {t : TA} {a : ECode} {r : ACode} (ha : Snd G E te a) (hr : SndA G E t r) : SndA G E (tCons te t) (c_cons a r) := fun ι S H σ ρ Q R e q => by
  refine ha.go R e q fun d S1 ι1 H1 v x1 R1 e1 r1 q1 => ?_
  refine hr.go R1 e1 q1 fun ds S2 ι2 H2 vs x2 R2 e2 r2 q2 => ?_
  exact Post.here R2 q2 _ (.cons (r1.mono x2) r2)
theorem da_nil : DA Xs G E [] c_nil := ⟨_, fun _ => pa_nil, snd_nil⟩
theorem da_cons {e : Expr} {es : List Expr} {a : ECode} {r : ACode} (ha : DE Xs G E e a) (hr : DA Xs G E es r) (hs : ∀ j, starEach (e :: es) (Xs j).env = (false, eval e (Xs j).env) :: starEach es (Xs j).env) : DA Xs G E (e :: es) (c_cons a r) := by
  obtain ⟨ta, pa, sa⟩ := ha
  obtain ⟨tr, pr, sr⟩ := hr
  exact ⟨_, fun j => pa_cons (pa j) (pr j) (hs j), snd_cons sa sr⟩
theorem dk_nil : DKw Xs G E [] c_nil := ⟨_, fun _ => pk_nil, snd_nil⟩
theorem dk_cons {e : Expr} {nm : Option Str} {kpos : Pos} {ks : List Keyword} {a : ECode} {r : ACode} (ha : DE Xs G E e a) (hr : DKw Xs G E ks r) : DKw Xs G E (⟨nm, e, kpos⟩ :: ks) (c_cons a r) := by
  obtain ⟨ta, pa, sa⟩ := ha
  obtain ⟨tr, pr, sr⟩ := hr
  exact ⟨_, fun j => pk_cons (pa j) (pr j), snd_cons sa sr⟩
/-- the items of a tuple, a list -/
def itemsOf : D → Sto → Option (List D)
  | .tup ds, _ => some ds
  | .lst ds, _ => some ds
  | .scr ds, _ => some ds
  | .wtp ds, _ => some ds
  | .ref n, S => match S[n]? with
    | some (some (.lst ds)) => some ds
    | _ => none
  | _, _ => none
/-- the largest number of items -/
def fits (n : Nat) : Bool := decide (n ≤ 1000000)
theorem fits_le {n : Nat} (h : fits n = true) : n ≤ sizeLine := by
  have h := of_decide_eq_true h
  rw [sizeLine_eq]
  omega
theorem fits_lt {n : Nat} (h : fits n = true) : n < sizeLine := by
  have h := of_decide_eq_true h
  rw [sizeLine_eq]
  omega
def p_tup (ds : List D) (S : Sto) : Res D := if fits ds.length = true then .ok (.tup ds) S else .stuck
/-- a new list; b: it will be changed (a cell of the store) -/
def p_lst (b : Bool) (ds : List D) (S : Sto) : Res D := if fits ds.length = true then (match b with
  | false => .ok (.lst ds) S
  | true => .ok (.ref S.length) (S ++ [some (.lst ds)])) else .stuck
/-- a new tuple, a new list that no one will change -/
theorem new_tup {ι : Ix} {S : Sto} {H : Hp} {vs : List V} {ds : List D} {p : Addr} (R : Rel G ι S H) (hp : H p = none) (r : Reps G ι (Lv ι S) H vs ds) :
    Ext ι S H ι S (upd H p (.tup vs)) ∧ Rel G ι S (upd H p (.tup vs)) ∧ Rep G ι (Lv ι S) (upd H p (.tup vs)) (.ref p) (.tup ds) := by
  have x : Ext ι S H ι S (upd H p (.tup vs)) := Ext.same (keepNew hp)
  exact ⟨x, R.same (keepNew hp), .tup upd_same (R.freshL hp) (r.mono x)⟩
theorem new_lst {ι : Ix} {S : Sto} {H : Hp} {vs : List V} {ds : List D} {p : Addr} (R : Rel G ι S H) (hp : H p = none) (r : Reps G ι (Lv ι S) H vs ds) :
    Ext ι S H ι S (upd H p (.lst vs)) ∧ Rel G ι S (upd H p (.lst vs)) ∧ Rep G ι (Lv ι S) (upd H p (.lst vs)) (.ref p) (.lst ds) := by
  have x : Ext ι S H ι S (upd H p (.lst vs)) := Ext.same (keepNew hp)
  exact ⟨x, R.same (keepNew hp), .lst upd_same (R.freshL hp) (r.mono x)⟩
theorem p_tup_ok {E0 : XK} {ι : Ix} {S : Sto} {H : Hp} {vs : List V} {ds : List D} {Q : VK} (R : Rel G ι S H) (r : Reps G ι (Lv ι S) H vs ds) (q : Post G E0 ι S H (PV G Q) (p_tup ds S)) :
    vs.length ≤ sizeLine ∧ ∀ p, H p = none → Q (.ref p) (upd H p (.tup vs)) := by
  unfold p_tup at q
  split at q
  · rename_i hf
    refine ⟨r.len_le (fits_le hf), fun p hp => ?_⟩
    obtain ⟨x, R', r'⟩ := new_tup R hp r
    exact q _ _ x R' _ r'
  · exact q.elim
theorem p_lst_ok {E0 : XK} {b : Bool} {ι : Ix} {S : Sto} {H : Hp} {vs : List V} {ds : List D} {Q : VK} (R : Rel G ι S H) (r : Reps G ι (Lv ι S) H vs ds) (q : Post G E0 ι S H (PV G Q) (p_lst b ds S)) :
    vs.length ≤ sizeLine ∧ ∀ p, H p = none → Q (.ref p) (upd H p (.lst vs)) := by
  unfold p_lst at q
  split at q
  · rename_i hf
    refine ⟨r.len_le (fits_le hf), fun p hp => ?_⟩
    cases b with
    | false =>
      obtain ⟨x, R', r'⟩ := new_lst R hp r
      exact q _ _ x R' _ r'
    | true =>
      have x : Ext ι S H (ι.snoc p) (S ++ [some (.lst ds)]) (upd H p (.lst vs)) := Ext.new R hp
      refine q _ _ x (R.new hp ⟨vs, upd_same, r.mono x⟩) _ (.ref ?_)
      show (ι.l ++ [p])[S.length]? = some p
      rw [← R.len]
      simp
  · exact q.elim
def c_tup (a : ACode) : ECode := fun ρ S => (a ρ S).bind p_tup
def c_lst (b : Bool) (a : ACode) : ECode := fun ρ S => (a ρ S).bind (p_lst b)
theorem de_tup {es : List Expr} {x1} {pos : Pos} {a : ACode} (ha : DA Xs G E es a) : DE Xs G E (.Tuple es x1 pos) (c_tup a) := by
  obtain ⟨ta, pa, sa⟩ := ha
  refine ⟨_, fun j => pe_tup (pa j), fun ι S H σ ρ Q R e q => ?_⟩
  exact sa.go R e q fun ds S1 ι1 H1 vs x1 R1 e1 r1 q1 => p_tup_ok R1 r1 q1
theorem de_lst {es : List Expr} {pos : Pos} {a : ACode} (b : Bool) (ha : DA Xs G E es a) : DE Xs G E (.List es pos) (c_lst b a) := by
  obtain ⟨ta, pa, sa⟩ := ha
  refine ⟨_, fun j => pe_lst (pa j), fun ι S H σ ρ Q R e q => ?_⟩
  exact sa.go R e q fun ds S1 ι1 H1 vs x1 R1 e1 r1 q1 => p_lst_ok R1 r1 q1
end
end DL
set_option Elab.async false
set_option linter.all false
set_option maxRecDepth 100000
set_option maxHeartbeats 4000000
/-! DL2: statements, targets, loops, comprehensions -/
namespace DL
open PySem PySem.Spec PyProof.Rows L2
/-! ### targets -/
def SndG (G : Gx) (sl : List Nat) (g : TG) (c : D → Env → Sto → Res Env) : Prop := ∀ E ι S H σ ρ v d Q, Rel G ι S H → REnv G ι S H σ ρ → Rep G ι (Lv ι S) H v d →
  Post G E ι S H (fun ρ' ι' S' H' => ∀ σ', REnv G ι' S' H' σ' ρ' → (∀ vs, (∀ i ∈ sl, i ∈ vs) → wipe σ' vs = wipe σ vs) → Q σ' H') (c d ρ S) → g v σ H Q
def SndGs (G : Gx) (sl : List Nat) (g : TGs) (c : List D → Env → Sto → Res Env) : Prop := ∀ E ι S H σ ρ v d Q, Rel G ι S H → REnv G ι S H σ ρ → Reps G ι (Lv ι S) H v d →
  Post G E ι S H (fun ρ' ι' S' H' => ∀ σ', REnv G ι' S' H' σ' ρ' → (∀ vs, (∀ i ∈ sl, i ∈ vs) → wipe σ' vs = wipe σ vs) → Q σ' H') (c d ρ S) → g v σ H Q
section
variable {I : Type} (Xs : I → Cx) (G : Gx)
def DG (tg : Expr) (sl : List Nat) (c : D → Env → Sto → Res Env) : Prop := ∃ g, (∀ i, PG (Xs i) tg g) ∧ SndG G sl g c
def DGs (tg : List Expr) (sl : List Nat) (c : List D → Env → Sto → Res Env) : Prop := ∃ g, (∀ i, PGs (Xs i) tg g) ∧ SndGs G sl g c
end
theorem wipe_set {σ : L2.St} {x : Option V} : ∀ {vs : List Nat} {i : Nat}, i ∈ vs → wipe (σ.set i x) vs = wipe σ vs
  | v :: vs, i, h => by
    unfold wipe
    by_cases e : i = v
    · subst e
      by_cases hm : i ∈ vs
      · rw [wipe_set hm]
      · have : ∀ (us : List Nat), i ∉ us → (wipe (σ.set i x) us).set i none = (wipe σ us).set i none := by
          intro us
          induction us with
          | nil => intro _; unfold wipe; simp
          | cons u us ih =>
            intro hu
            unfold wipe
            have hne : u ≠ i := fun e => hu (by simp [e])
            rw [List.set_comm _ _ hne, ih fun z => hu (by simp [z]), List.set_comm _ _ hne]
        exact this vs hm
    · rw [wipe_set (List.mem_of_ne_of_mem e h)]
def g_name (i : Nat) : D → Env → Sto → Res Env := fun d ρ S => .ok (ρ.set i (some d)) S
def g_nil : List D → Env → Sto → Res Env := fun ds ρ S => match ds with
  | [] => .ok ρ S
  | _ => .stuck
def g_cons (a : D → Env → Sto → Res Env) (r : List D → Env → Sto → Res Env) : List D → Env → Sto → Res Env := fun ds ρ S => match ds with
  | d :: ds => (a d ρ S).bind fun ρ1 S1 => r ds ρ1 S1
  | [] => .stuck
def g_tup (n : Nat) (r : List D → Env → Sto → Res Env) : D → Env → Sto → Res Env := fun d ρ S => match d with
  | .tup ds => if ds.length = n then r ds ρ S else .stuck
  | d => match itemsOf d S with
    | some ds => if ds.length = n then r ds ρ S else .stuck
    | none => .stuck
section
variable {I : Type} {Xs : I → Cx} {G : Gx} {E : WK} {kk : Nat}
theorem snd_name {i : Nat} : SndG G [i] (gName i) (g_name i) := fun E ι S H σ ρ v d Q R e r q =>
  Post.here R q _ (e.set r i) fun vs h => wipe_set (h i (by simp))
theorem dg_name (F : FamH Xs G E) {i : Nat} {x : Str} {pos : Pos} (hi : ∀ j, (Xs j).N[i]? = some x) (hx : ∀ j, Loc (Xs j).env.scope x) (hf : ∀ j, (Xs j).fn x = true ∨ (Xs j).env.scope.names.lookup x = some .local) : DG Xs G (.Name x pos) [i] (g_name i) :=
  ⟨_, fun j => pg_name (F.nd j) (hi j) (hx j) (hf j), snd_name⟩
theorem dgs_nil : DGs Xs G [] [] g_nil := ⟨_, fun _ => pgs_nil, fun E ι S H σ ρ v d Q R e r q => by
  cases r with
  | nil => exact ⟨rfl, Post.here R q _ e fun _ _ => rfl⟩
  | cons _ _ => exact q.elim⟩
theorem dgs_cons {t : Expr} {ts : List Expr} {s1 s2 : List Nat} {a : D → Env → Sto → Res Env} {r : List D → Env → Sto → Res Env} (ha : DG Xs G t s1 a) (hr : DGs Xs G ts s2 r) (hs : ∀ j, List.map (fun x => x.snd) (assignEach (t :: ts) (Xs j).env) = assign t (Xs j).env :: List.map (fun x => x.snd) (assignEach ts (Xs j).env)) : DGs Xs G (t :: ts) (s1 ++ s2) (g_cons a r) := by
  obtain ⟨ga, pa, sa⟩ := ha
  obtain ⟨gr, pr, sr⟩ := hr
  refine ⟨_, fun j => pgs_cons (pa j) (pr j) (hs j), fun E ι S H σ ρ v d Q R e r q => ?_⟩
  cases r with
  | nil => exact q.elim
  | cons r0 rs =>
    refine ⟨_, _, rfl, sa E ι S H σ ρ _ _ _ R e r0 (Post.bind q fun ρ1 S1 ι1 H1 x1 R1 q1 σ1 e1 w1 => ?_)⟩
    refine sr E ι1 S1 H1 σ1 ρ1 _ _ Q R1 e1 (rs.mono x1) (q1.imp fun ρ2 S2 ι2 H2 x2 R2 q2 σ2 e2 w2 => q2 σ2 e2 fun vs hv => ?_)
    rw [w2 vs fun i hi => hv i (by simp [hi]), w1 vs fun i hi => hv i (by simp [hi])]
theorem pg_or {X : Cx} {tg : Expr} {a b : TG} (h : PG X tg a) (h' : PG X tg b) : PG X tg (fun v σ H Q => a v σ H Q ∨ b v σ H Q) :=
  ⟨fun pins s σ H v u Q I r hw => hw.elim (fun z => h.run pins s σ H v u Q I r z) fun z => h'.run pins s σ H v u Q I r z⟩
theorem sqtl_at {ι : Ix} {S : Sto} {H : Hp} {v : V} {d : D} {ds : List D} (R : Rel G ι S H) (r : Rep G ι (Lv ι S) H v d) (h : itemsOf d S = some ds) : ∃ a vs, v = .ref a ∧ (SqT G.K H a vs ∨ SqL G.K H a vs) ∧ Reps G ι (Lv ι S) H vs ds := by
  cases r with
  | tup q k r => cases h; exact ⟨_, _, rfl, .inl (SqT.of q), r⟩
  | wtp q r => cases h; exact ⟨_, _, rfl, .inl (.inr q), r⟩
  | lst q k r => cases h; exact ⟨_, _, rfl, .inr (SqL.of q), r⟩
  | scr q r =>
    cases h
    refine ⟨_, _, rfl, .inr ?_, r⟩
    rcases q with q | q
    · exact .inl q.1
    · exact .inr q
  | ref q =>
    rename_i a n
    unfold itemsOf at h
    cases hs : S[n]? with
    | none => simp only [hs] at h; cases h
    | some o =>
      simp only [hs] at h
      cases o with
      | none => cases h
      | some cl =>
        cases cl with
        | lst es =>
          cases h
          obtain ⟨a', h1, vs, h2, h3⟩ := R.cell n _ hs
          rw [q] at h1
          cases h1
          exact ⟨a, vs, rfl, .inr (SqL.of h2), h3⟩
        | _ => cases h
  | _ => cases h
theorem dg_tup (F : FamH Xs G E) {es : List Expr} {k : Nat} {pos : Pos} {n : Nat} {sl : List Nat} {r : List D → Env → Sto → Res Env} (hr : DGs Xs G es sl r) (hn : es.length = n) (hp : ∀ j (t : TGs), PGs (Xs j) es t → PG (Xs j) (.Tuple es k pos) (fun v σ H Q => gTup (Xs j).K n t v σ H Q ∨ gLst (Xs j).K n t v σ H Q)) :
    DG Xs G (.Tuple es k pos) sl (g_tup n r) := by
  obtain ⟨gr, pr, sr⟩ := hr
  refine ⟨fun v σ H Q => gTup G.K n gr v σ H Q ∨ gLst G.K n gr v σ H Q, fun j => by have z := hp j gr (pr j); rw [F.K j] at z; exact z, fun E ι S H σ ρ v d Q R e rr q => ?_⟩
  have main : ∀ ds, itemsOf d S = some ds → Post G E ι S H (fun ρ' ι' S' H' => ∀ σ', REnv G ι' S' H' σ' ρ' → (∀ vs, (∀ i ∈ sl, i ∈ vs) → wipe σ' vs = wipe σ vs) → Q σ' H') (if ds.length = n then r ds ρ S else .stuck) → gTup G.K n gr v σ H Q ∨ gLst G.K n gr v σ H Q := fun ds hd q => by
    obtain ⟨a, vs, rfl, hs, rs⟩ := sqtl_at R rr hd
    by_cases hl : ds.length = n
    · rw [if_pos hl] at q
      have z := sr E ι S H σ ρ _ _ Q R e rs q
      rcases hs with hs | hs
      · exact .inl ⟨a, vs, rfl, hs, rs.length.trans hl, z⟩
      · exact .inr ⟨a, vs, rfl, hs, rs.length.trans hl, z⟩
    · rw [if_neg hl] at q
      exact q.elim
  have gen : (Post G E ι S H (fun ρ' ι' S' H' => ∀ σ', REnv G ι' S' H' σ' ρ' → (∀ vs, (∀ i ∈ sl, i ∈ vs) → wipe σ' vs = wipe σ vs) → Q σ' H') (match itemsOf d S with
    | some ds => if ds.length = n then r ds ρ S else .stuck
    | none => .stuck)) → gTup G.K n gr v σ H Q ∨ gLst G.K n gr v σ H Q := fun q => by
    cases hd : itemsOf d S with
    | none => rw [hd] at q; exact q.elim
    | some ds => rw [hd] at q; exact main ds hd q
  cases d with
  | tup ds => exact main ds rfl q
  | _ => exact gen q
/-! ### statements -/
def c_set (i : Nat) (a : ECode) : SCode := fun ρ S => (a ρ S).bind fun d S1 => .ok (.nx (ρ.set i (some d))) S1
def c_asg (g : D → Env → Sto → Res Env) (a : ECode) : SCode := fun ρ S => (a ρ S).bind fun d S1 => (g d ρ S1).bind fun ρ1 S2 => .ok (.nx ρ1) S2
def c_nx : SCode := fun ρ S => .ok (.nx ρ) S
def c_seq (a b : SCode) : SCode := fun ρ S => (a ρ S).bind fun f S1 => match f with
  | .nx ρ1 => b ρ1 S1
  | o => .ok o S1
def c_expr (a : ECode) : SCode := fun ρ S => (a ρ S).bind fun _ S1 => .ok (.nx ρ) S1
def c_ret (a : ECode) : SCode := fun ρ S => (a ρ S).bind fun d S1 => .ok (.rt d) S1
def c_retN : SCode := fun _ S => .ok (.rt .non) S
def c_brk : SCode := fun ρ S => .ok (.bk ρ) S
def c_cont : SCode := fun ρ S => .ok (.ct ρ) S
def c_ifS (c : TCode) (a b : SCode) : SCode := fun ρ S => (c ρ S).bind fun k S1 => if k = true then a ρ S1 else b ρ S1
def c_stuck : SCode := fun _ _ => .stuck
theorem snd_asg {te : TE} {g : TG} {sl : List Nat} {a : ECode} {c : D → Env → Sto → Res Env} (ha : Snd G E te a) (hg : SndG G sl g c) : SndS G E (tAsg te g) (c_asg c a) := fun ι S H σ ρ Dn R e q => by
  refine ha.go R e q fun d S1 ι1 H1 v x1 R1 e1 r1 q1 => ?_
  refine hg (E σ) ι1 S1 H1 σ ρ v d _ R1 e1 r1 (Post.bind q1 fun ρ2 S2 ι2 H2 x2 R2 q2 σ2 e2 w2 => ?_)
  exact Post.here R2 q2 σ2 e2
theorem ds_asg {tg e : Expr} {pos : Pos} {sl : List Nat} {a : ECode} {c : D → Env → Sto → Res Env} (ha : DE Xs G E e a) (hg : DG Xs G tg sl c) (hs : ∀ j, swapsWithSole [tg] e pos.line (Xs j).env = pure false) (hw : ∀ j, swappedStores [tg] e (Xs j).env = pure none) (h1 : ∀ j, List.map (fun x => x.snd) (assignEach [tg] (Xs j).env) = [assign tg (Xs j).env]) :
    DS Xs G E (.Assign [tg] e pos) (c_asg c a) := by
  obtain ⟨ta, pa, sa⟩ := ha
  obtain ⟨g, pg, sg⟩ := hg
  exact ⟨_, fun j => ps_asg (pa j) (pg j) (hs j) (hw j) (h1 j), snd_asg sa sg⟩
theorem ds_set (F : FamH Xs G E) {i : Nat} {x : Str} {e : Expr} {pos pos' : Pos} {a : ECode} (hi : ∀ j, (Xs j).N[i]? = some x) (hx : ∀ j, Loc (Xs j).env.scope x) (hf : ∀ j, (Xs j).fn x = true ∨ (Xs j).env.scope.names.lookup x = some .local) (ha : DE Xs G E e a)
    (hs : ∀ j, swapsWith e (some (.Name x pos')) pos.line (Xs j).env = pure false) : DS Xs G E (.Assign [.Name x pos'] e pos) (c_set i a) := by
  obtain ⟨ta, pa, sa⟩ := ha
  refine ⟨tAsg ta (gName i), fun j => ps_set (F.nd j) (hi j) (hx j) (pa j) (hs j) (hf j), fun ι S H σ ρ Dn R e q => ?_⟩
  refine sa.go R e q fun d S1 ι1 H1 v x1 R1 e1 r1 q1 => ?_
  exact Post.here R1 q1 _ (e1.set r1 i)
theorem dss_nil : DSs Xs G E [] c_nx := ⟨_, fun _ => pss_nil, fun ι S H σ ρ Dn R e q => Post.here R q σ e⟩
theorem snd_seq {E : XK} {t u : TS} {a b : SCode} (ha : SndS G (fun _ => E) t a) (hb : SndS G (fun _ => E) u b) : SndS G (fun _ => E) (tSeq t u) (c_seq a b) := fun ι S H σ ρ Dn R e q => by
  refine ha ι S H σ ρ _ R e (Post.bind q fun f S1 ι1 H1 x1 R1 q1 => ?_)
  cases f with
  | nx ρ1 => exact fun σ1 e1 => hb ι1 S1 H1 σ1 ρ1 Dn R1 e1 q1
  | rt d => exact fun v r => Post.here R1 q1 v r
  | bk ρ1 => exact fun σ1 e1 => Post.here R1 q1 σ1 e1
  | ct ρ1 => exact fun σ1 e1 => Post.here R1 q1 σ1 e1
theorem dss_cons {st : Stmt} {sts : List Stmt} {a b : SCode} (ha : DS Xs G E st a) (hb : DSs Xs G E sts b) (hE : ∀ σ σ', E σ = E σ' := by exact fun _ _ => rfl) : DSs Xs G E (st :: sts) (c_seq a b) := by
  obtain ⟨E0, rfl⟩ : ∃ E0, E = fun _ => E0 := ⟨E [], funext fun σ => hE σ []⟩
  obtain ⟨ta, pa, sa⟩ := ha
  obtain ⟨tb, pb, sb⟩ := hb
  exact ⟨_, fun j => pss_cons (pa j) (pb j), snd_seq sa sb⟩
theorem dss_one {st : Stmt} {a : SCode} (ha : DS Xs G E st a) : DSs Xs G E [st] a := by
  obtain ⟨ta, pa, sa⟩ := ha
  exact ⟨_, fun j => pss_one (pa j), sa⟩
theorem ds_never {st : Stmt} : DS Xs G E st c_stuck := ⟨_, fun _ => ps_never, fun ι S H σ ρ Dn R e q => q.elim⟩
theorem ds_expr {e : Expr} {pos : Pos} {a : ECode} (ha : DE Xs G E e a) (hs : ∀ j, swapsWith e none pos.line (Xs j).env = pure false) : DS Xs G E (.Expr e pos) (c_expr a) := by
  obtain ⟨ta, pa, sa⟩ := ha
  refine ⟨_, fun j => ps_expr (pa j) (hs j), fun ι S H σ ρ Dn R e q => ?_⟩
  exact sa.go R e q fun d S1 ι1 H1 v x1 R1 e1 r1 q1 => Post.here R1 q1 σ e1
theorem ds_ret {e : Expr} {pos : Pos} {a : ECode} (ha : DE Xs G E e a) : DS Xs G E (.Return (some e) pos) (c_ret a) := by
  obtain ⟨ta, pa, sa⟩ := ha
  refine ⟨_, fun j => ps_ret (pa j), fun ι S H σ ρ Dn R e q => ?_⟩
  exact sa.go R e q fun d S1 ι1 H1 v x1 R1 e1 r1 q1 => Post.here R1 q1 v r1
theorem ds_if {c : Expr} {x y : List Stmt} {pos : Pos} {k : TCode} {a b : SCode} (hc : DT Xs G E c k) (ha : DSs Xs G E x a) (hb : DSs Xs G E y b) : DS Xs G E (.If c x y pos) (c_ifS k a b) := by
  obtain ⟨tc, pc, sc⟩ := hc
  obtain ⟨ta, pa, sa⟩ := ha
  obtain ⟨tb, pb, sb⟩ := hb
  refine ⟨_, fun j => ps_if (pc j) (pa j) (pb j), fun ι S H σ ρ Dn R e q => ?_⟩
  refine sc.go R e q fun c S1 ι1 H1 x1 R1 e1 q1 => ?_
  cases c with
  | true =>
    rw [if_pos rfl] at q1 ⊢
    exact sa ι1 S1 H1 σ ρ Dn R1 e1 q1
  | false =>
    rw [if_neg Bool.false_ne_true] at q1 ⊢
    exact sb ι1 S1 H1 σ ρ Dn R1 e1 q1
/-- x op= e, x a name of the def -/
def SndI2 (G : Gx) (r : TIp) (p : D → D → Sto → Res D) : Prop := ∀ E ι S H x y dx dy Q, Rel G ι S H → Rep G ι (Lv ι S) H x dx → Rep G ι (Lv ι S) H y dy → Post G E ι S H (PV G Q) (p dx dy S) → r x y H Q
def c_aug (i : Nat) (p : D → D → Sto → Res D) (a : ECode) : SCode := fun ρ S => (c_var i ρ S).bind fun x S0 => (a ρ S0).bind fun y S1 => (p x y S1).bind fun z S2 => .ok (.nx (ρ.set i (some z))) S2
theorem ds_aug (F : FamH Xs G E) {i : Nat} {x : Str} {e : Expr} {op : Operator} {pos pos' : Pos} {a : ECode} {ti : TIp} {p : D → D → Sto → Res D} (hi : ∀ j, (Xs j).N[i]? = some x) (hx : ∀ j, Loc (Xs j).env.scope x) (hf : ∀ j, (Xs j).fn x = true ∨ (Xs j).env.scope.names.lookup x = some .local)
    (ho : ∀ j, PIp (Xs j) op ti) (hr : SndI2 G ti p) (ha : DE Xs G E e a)
    (hw : ∀ j (te : TE), PE (Xs j) e te → PS (Xs j) (.AugAssign (.Name x pos') op e pos) (tAug i te ti)) : DS Xs G E (.AugAssign (.Name x pos') op e pos) (c_aug i p a) := by
  obtain ⟨ta, pa, sa⟩ := ha
  refine ⟨_, fun j => hw j ta (pa j), fun ι S H σ ρ Dn R e q => ?_⟩
  unfold c_aug c_var at q
  split at q
  · rename_i d hd
    obtain ⟨v, h1, h2⟩ := e.at_ i d hd
    refine ⟨v, h1, ?_⟩
    have q : Post G (E σ) ι S H (PF G Dn) ((a ρ S).bind fun y S1 => (p d y S1).bind fun z S2 => .ok (.nx (ρ.set i (some z))) S2) := q
    refine sa.go R e q fun y S1 ι1 H1 w x1 R1 e1 r1 q1 => ?_
    refine hr (E σ) ι1 S1 H1 v w d y _ R1 (h2.mono x1) r1 (Post.bind q1 fun z S2 ι2 H2 x2 R2 q2 u r2 => ?_)
    exact Post.here R2 q2 _ ((e1.mono x2).set r2 i)
  · exact q.elim
/-! ### what is walked -/
structure Wk where
  items : List D
  src : List (D × List D)
def Wk.ok (w : Wk) (S : Sto) : Prop := ∀ p ∈ w.src, itemsOf p.1 S = some p.2
def Walks (G : Gx) (wk : Wk) (ι1 : Ix) (S1 : Sto) (H1 : Hp) (J : It) : Prop := ∀ ι2 S2 H2, Ext ι1 S1 H1 ι2 S2 H2 → Rel G ι2 S2 H2 → wk.ok S2 →
  J.stop wk.items.length H2 ∧ ∀ i d, wk.items[i]? = some d → J.go i H2 ∧ ∀ x H3, J.yld i H2 x H3 → Ext ι2 S2 H2 ι2 S2 H3 ∧ Rel G ι2 S2 H3 ∧ Rep G ι2 (Lv ι2 S2) H3 x d ∧ ∀ a o, H2 a = some o → H3 a = some o
def SndIt (G : Gx) (E : WK) (wi : TI) (c : Env → Sto → Res Wk) : Prop := ∀ ι S H σ ρ Q, Rel G ι S H → REnv G ι S H σ ρ → Post G (E σ) ι S H (fun wk ι1 S1 H1 => ∀ J, Walks G wk ι1 S1 H1 J → Q J H1) (c ρ S) → wi σ H Q
def DI {I : Type} (Xs : I → Cx) (G : Gx) (E : WK) (tg iter : Expr) (c : Env → Sto → Res Wk) : Prop := ∃ wi, (∀ i, PI (Xs i) tg iter wi) ∧ SndIt G E wi c
open Classical in
noncomputable def forL (ok : Sto → Prop) (body : D → SCode) : List D → SCode
  | [], ρ, S => if ok S then .ok (.nx ρ) S else .stuck
  | d :: ds, ρ, S => if ok S then (body d ρ S).bind fun f S1 => match f with
      | .nx ρ1 => forL ok body ds ρ1 S1
      | .ct ρ1 => forL ok body ds ρ1 S1
      | .bk ρ1 => .ok (.nx ρ1) S1
      | .rt d => .ok (.rt d) S1 else .stuck
noncomputable def c_for (ci : Env → Sto → Res Wk) (g : D → Env → Sto → Res Env) (body : SCode) : SCode := fun ρ S => (ci ρ S).bind fun wk S1 => forL wk.ok (fun d ρ S => (g d ρ S).bind fun ρ1 S1 => body ρ1 S1) wk.items ρ S1
theorem ds_for (F : Fam Xs G E kk) {tg iter : Expr} {body : List Stmt} {pos : Pos} {sl : List Nat} {ci : Env → Sto → Res Wk} {g : D → Env → Sto → Res Env} {b : SCode} (hi : DI Xs G E tg iter ci) (hg : DG Xs G tg sl g) (hb : DSs Xs G E body b)
    (hp : ∀ j, PassesOwn (model (Xs j).prog (Xs j).w) (Xs j).A (Xs j).env (Xs j).xe) (hs : ∀ j x, foldedSetIterable iter (Xs j).env x = pure x) (hE : ∀ σ σ', E σ = E σ' := by exact fun _ _ => rfl) : DS Xs G E (.For tg iter body [] pos) (c_for ci g b) := by
  obtain ⟨E0, rfl⟩ : ∃ E0, E = fun _ => E0 := ⟨E [], funext fun σ => hE σ []⟩
  obtain ⟨wi, pi, si⟩ := hi
  obtain ⟨gg, pg, sg⟩ := hg
  obtain ⟨tb, pb, sb⟩ := hb
  refine ⟨tFor wi gg tb, fun j => ps_for (hp j) (F.calm j) (pi j) (pg j) (pb j) (hs j), fun ι S H σ ρ Dn R e q => ?_⟩
  refine si ι S H σ ρ _ R e (Post.bind q fun wk S1 ι1 H1 x1 R1 q1 J hJ => ?_)
  refine ⟨fun i m σ H => m = wk.items.length - i ∧ i ≤ wk.items.length ∧ ∃ ι2 S2 ρ2, Ext ι1 S1 H1 ι2 S2 H ∧ Rel G ι2 S2 H ∧ REnv G ι2 S2 H σ ρ2 ∧ Post G E0 ι2 S2 H (PF G Dn) (forL wk.ok (fun d ρ S => (g d ρ S).bind fun ρ1 S1 => b ρ1 S1) (wk.items.drop i) ρ2 S2),
    ⟨_, rfl, Nat.zero_le _, ι1, S1, ρ, Ext.refl, R1, e.mono x1, q1⟩, ?_⟩
  rintro i m σ2 H2 ⟨rfl, hi, ι2, S2, ρ2, x2, R2, e2, q2⟩
  by_cases hlt : i < wk.items.length
  · rw [List.drop_eq_getElem_cons hlt] at q2
    unfold forL at q2
    split at q2
    · rename_i hok
      obtain ⟨_, hw⟩ := hJ ι2 S2 H2 x2 R2 hok
      obtain ⟨hgo, hy⟩ := hw i wk.items[i] (by simp [hlt])
      refine .inr ⟨hgo, fun σ' H' => i + 1 ≤ wk.items.length ∧ ∃ ι3 S3 ρ3, Ext ι1 S1 H1 ι3 S3 H' ∧ Rel G ι3 S3 H' ∧ REnv G ι3 S3 H' σ' ρ3 ∧ Post G E0 ι3 S3 H' (PF G Dn) (forL wk.ok (fun d ρ S => (g d ρ S).bind fun ρ1 S1 => b ρ1 S1) (wk.items.drop (i + 1)) ρ3 S3),
        fun σ' H' h => ⟨wk.items.length - (i + 1), by omega, rfl, h.1, h.2⟩, fun x H3 hx => ?_⟩
      obtain ⟨x3, R3, r3, _⟩ := hy x H3 hx
      have q3 := Post.back x3 q2
      have q4 : Post G E0 ι2 S2 H3 (PF G Dn) ((g wk.items[i] ρ2 S2).bind fun ρ1 S1 => (b ρ1 S1).bind fun f S1 => match f with
        | .nx ρ1 => forL wk.ok (fun d ρ S => (g d ρ S).bind fun ρ1 S1 => b ρ1 S1) (wk.items.drop (i + 1)) ρ1 S1
        | .ct ρ1 => forL wk.ok (fun d ρ S => (g d ρ S).bind fun ρ1 S1 => b ρ1 S1) (wk.items.drop (i + 1)) ρ1 S1
        | .bk ρ1 => .ok (.nx ρ1) S1
        | .rt d => .ok (.rt d) S1) := by
        cases hgc : g wk.items[i] ρ2 S2 with
        | ok a S => rw [hgc] at q3; exact q3
        | ex c d S => rw [hgc] at q3; exact q3
        | stuck => rw [hgc] at q3; exact q3
      refine sg E0 ι2 S2 H3 σ2 ρ2 x _ _ R3 (e2.mono x3) r3 (Post.bind q4 fun ρ4 S4 ι4 H4 x4 R4 q5 σ4 e4 _ => ?_)
      refine sb ι4 S4 H4 σ4 ρ4 _ R4 e4 (Post.bind q5 fun f S5 ι5 H5 x5 R5 q6 => ?_)
      have xx : Ext ι1 S1 H1 ι5 S5 H5 := ((x2.trans x3).trans x4).trans x5
      cases f with
      | nx ρ5 => exact fun σ5 e5 => ⟨hlt, ι5, S5, ρ5, xx, R5, e5, q6⟩
      | ct ρ5 => exact fun σ5 e5 => ⟨hlt, ι5, S5, ρ5, xx, R5, e5, q6⟩
      | bk ρ5 => exact fun σ5 e5 => Post.here R5 q6 σ5 e5
      | rt d => exact fun v r => Post.here R5 q6 v r
    · exact q2.elim
  · have ei : i = wk.items.length := by omega
    subst ei
    rw [List.drop_length] at q2
    unfold forL at q2
    split at q2
    · rename_i hok
      exact .inl ⟨(hJ ι2 S2 H2 x2 R2 hok).1, Post.here R2 q2 σ2 e2⟩
    · exact q2.elim
/-! ### while: n turns at most -/
def whileL (c : TCode) (b : SCode) : Nat → SCode
  | 0, _, _ => .stuck
  | n + 1, ρ, S => (c ρ S).bind fun k S1 => if k = true then (b ρ S1).bind fun f S2 => match f with
      | .nx ρ1 => whileL c b n ρ1 S2
      | .ct ρ1 => whileL c b n ρ1 S2
      | .bk ρ1 => .ok (.nx ρ1) S2
      | .rt d => .ok (.rt d) S2 else .ok (.nx ρ) S1
def FUEL : Nat := 1000000000000
def c_while (c : TCode) (b : SCode) : SCode := fun ρ S => whileL c b FUEL ρ S
theorem ds_while {c : Expr} {body : List Stmt} {pos : Pos} {k : TCode} {b : SCode} (hc : DT Xs G E c k) (hb : DSs Xs G E body b)
    (hp : ∀ j, PassesOwn (model (Xs j).prog (Xs j).w) (Xs j).A (Xs j).env (Xs j).xe) (hE : ∀ σ σ', E σ = E σ' := by exact fun _ _ => rfl) : DS Xs G E (.While c body [] pos) (c_while k b) := by
  obtain ⟨E0, rfl⟩ : ∃ E0, E = fun _ => E0 := ⟨E [], funext fun σ => hE σ []⟩
  obtain ⟨tc, pc, sc⟩ := hc
  obtain ⟨tb, pb, sb⟩ := hb
  refine ⟨tWhile tc tb, fun j => ps_while (hp j) (pc j) (pb j), fun ι S H σ ρ Dn R e q => ?_⟩
  refine ⟨fun m σ H => ∃ ι2 S2 ρ2, Rel G ι2 S2 H ∧ REnv G ι2 S2 H σ ρ2 ∧ Post G E0 ι2 S2 H (PF G Dn) (whileL k b m ρ2 S2), ⟨FUEL, ι, S, ρ, R, e, q⟩, ?_⟩
  rintro m σ2 H2 ⟨ι2, S2, ρ2, R2, e2, q2⟩
  cases m with
  | zero => exact q2.elim
  | succ m =>
    have q2 : Post G E0 ι2 S2 H2 (PF G Dn) ((k ρ2 S2).bind fun c S1 => if c = true then (b ρ2 S1).bind fun f S2 => match f with
      | .nx ρ1 => whileL k b m ρ1 S2
      | .ct ρ1 => whileL k b m ρ1 S2
      | .bk ρ1 => .ok (.nx ρ1) S2
      | .rt d => .ok (.rt d) S2 else .ok (.nx ρ2) S1) := q2
    refine sc.go R2 e2 q2 fun t S3 ι3 H3 x3 R3 e3 q3 => ?_
    cases t with
    | true =>
      rw [if_pos rfl] at q3 ⊢
      refine ⟨fun σ' H' => ∃ ι2 S2 ρ2, Rel G ι2 S2 H' ∧ REnv G ι2 S2 H' σ' ρ2 ∧ Post G E0 ι2 S2 H' (PF G Dn) (whileL k b m ρ2 S2), fun σ' H' h => ⟨m, Nat.lt_succ_self _, h⟩, ?_⟩
      refine sb ι3 S3 H3 σ2 ρ2 _ R3 e3 (Post.bind q3 fun f S4 ι4 H4 x4 R4 q4 => ?_)
      cases f with
      | nx ρ5 => exact fun σ5 e5 => ⟨ι4, S4, ρ5, R4, e5, q4⟩
      | ct ρ5 => exact fun σ5 e5 => ⟨ι4, S4, ρ5, R4, e5, q4⟩
      | bk ρ5 => exact fun σ5 e5 => Post.here R4 q4 σ5 e5
      | rt d => exact fun v r => Post.here R4 q4 v r
    | false =>
      rw [if_neg Bool.false_ne_true] at q3 ⊢
      exact Post.here R3 q3 σ2 e3
end
end DL
set_option Elab.async false
set_option linter.all false
set_option maxRecDepth 100000
set_option maxHeartbeats 4000000
/-! DL3: comprehensions, defs and their calls -/
namespace DL
open PySem PySem.Spec PyProof.Rows L2
/-! ### comprehensions: nothing may be raised within -/
def Res.bindN {α β : Type} (r : Res α) (k : α → Sto → Res β) : Res β :=
  match r with
  | .ok a S => k a S
  | _ => .stuck
@[simp] theorem Res.bindN_ok {α β : Type} (a : α) (S : Sto) (k : α → Sto → Res β) : (Res.ok a S).bindN k = k a S := rfl
theorem Post.bindN {G : Gx} {E E' : XK} {ι : Ix} {S : Sto} {H : Hp} {α β : Type} {P : α → Ix → Sto → Hp → Prop} {P' : β → Ix → Sto → Hp → Prop} {r : Res α} {k : α → Sto → Res β} (p : Post G E ι S H P' (r.bindN k))
    (hk : ∀ a S1 ι1 H1, Ext ι S H ι1 S1 H1 → Rel G ι1 S1 H1 → Post G E ι1 S1 H1 P' (k a S1) → P a ι1 S1 H1) : Post G E' ι S H P r := by
  cases r with
  | ok a S2 => exact fun ι2 H2 y R => hk a S2 ι2 H2 y R (Post.back y p)
  | ex c d S2 => exact p.elim
  | stuck => exact p
def wipeE (ρ : Env) : List Nat → Env
  | [] => ρ
  | v :: vs => (wipeE ρ vs).set v none
theorem REnv.wipe {G : Gx} {ι : Ix} {S : Sto} {H : Hp} {σ : L2.St} {ρ : Env} (e : REnv G ι S H σ ρ) : ∀ vs : List Nat, REnv G ι S H (L2.wipe σ vs) (wipeE ρ vs)
  | [] => e
  | v :: vs => by
    have ih := e.wipe vs
    unfold L2.wipe wipeE
    refine ⟨by simp [ih.len], fun j d q => ?_⟩
    rw [List.getElem?_set] at q ⊢
    by_cases hi : v = j
    · subst hi
      rw [if_pos rfl] at q
      split at q <;> cases q
    · rw [if_neg hi] at q ⊢
      exact ih.at_ j d q
open Classical in
noncomputable def lcL (ok : Sto → Prop) (g : D → Env → Sto → Res Env) (t : TCode) (a : ECode) (ρ : Env) : List D → Sto → Res (List D)
  | [], S => if ok S then .ok [] S else .stuck
  | d :: ds, S => if ok S then (g d ρ S).bindN fun ρ1 S1 => (t ρ1 S1).bindN fun b S2 => if b = true then (a ρ1 S2).bindN fun y S3 => (lcL ok g t a ρ ds S3).bind fun ys S4 => .ok (y :: ys) S4 else lcL ok g t a ρ ds S2 else .stuck
noncomputable def c_lc (ci : Env → Sto → Res Wk) (g : D → Env → Sto → Res Env) (t : TCode) (a : ECode) (own : List Nat) : ECode := fun ρ S => (ci ρ S).bind fun wk S1 =>
  if fits wk.items.length = true then (lcL wk.ok g t a (wipeE ρ own) wk.items S1).bind fun ds S2 => .ok (.lst ds) S2 else .stuck
def c_yes : TCode := fun _ S => .ok true S
def DTs {I : Type} (Xs : I → Cx) (G : Gx) (E : WK) (ifs : List Expr) (c : TCode) : Prop := ∃ t, (∀ i, PTs (Xs i) ifs t) ∧ SndT G E t c
section
variable {I : Type} {Xs : I → Cx} {G : Gx} {E : WK} {kk : Nat}
theorem dts_nil : DTs Xs G E [] c_yes := ⟨_, fun _ => pts_nil, fun ι S H σ ρ Q R e q => Post.here R q⟩
theorem dts_one {c : Expr} {t : TCode} (h : DT Xs G E c t) : DTs Xs G E [c] t := by
  obtain ⟨tt, p, s⟩ := h
  exact ⟨tt, fun j => pts_one (p j), s⟩
/-- the list that a comprehension has built is a frozen list -/
theorem Rel.unhide {ι : Ix} {S : Sto} {H : Hp} {p : Addr} (R : Rel G ι S H) : Rel G ⟨ι.l, fun a => ι.z a ∧ a ≠ p⟩ S H := by
  have hw : ∀ a, Lv ⟨ι.l, fun a => ι.z a ∧ a ≠ p⟩ S a → Lv ι S a := fun a z => by
    rcases z with z | z
    · exact .inl z
    · exact .inr z.1
  refine ⟨R.len, R.nd, fun n c h => ?_, R.trk, fun a z => R.ztr a z.1⟩
  obtain ⟨a, h1, h2⟩ := R.cell n c h
  refine ⟨a, h1, ?_⟩
  cases c with
  | lst ds =>
    obtain ⟨vs, a1, a2⟩ := h2
    exact ⟨vs, a1, a2.weak (ι := ι) (ι' := ⟨ι.l, fun a => ι.z a ∧ a ≠ p⟩) hw rfl⟩
  | dK ds =>
    obtain ⟨vs, a1, a3, a2⟩ := h2
    exact ⟨vs, a1, a3, a2.weak (ι := ι) (ι' := ⟨ι.l, fun a => ι.z a ∧ a ≠ p⟩) hw rfl⟩
  | dT ds =>
    obtain ⟨vs, a1, a3, a2⟩ := h2
    exact ⟨vs, a1, a3, a2.weak (ι := ι) (ι' := ⟨ι.l, fun a => ι.z a ∧ a ≠ p⟩) hw rfl⟩
  | ins c fs =>
    obtain ⟨dx, vs, a1, a3, a2⟩ := h2
    exact ⟨dx, vs, a1, a3, a2.weak (ι := ι) (ι' := ⟨ι.l, fun a => ι.z a ∧ a ≠ p⟩) hw rfl⟩
/-- writing what is hidden changes nothing that is known -/
theorem Ext.hid {ι : Ix} {S : Sto} {H H0 : Hp} {ι0 : Ix} {S0 : Sto} {p : Addr} {o : HO} (x : Ext ι0 S0 H0 ι S H) (hp : H0 p = none) : Ext ι0 S0 H0 ι S (upd H p o) := by
  refine ⟨x.pre, x.zs, x.zn, fun a u e => ?_, x.liv, fun a u e hl => ?_⟩
  · rw [upd_ne (ne_of_none e hp)]
    exact x.trk a u e
  · rw [upd_ne (ne_of_none e hp)]
    exact x.keep a u e hl
theorem Rel.hid {ι : Ix} {S : Sto} {H : Hp} {p : Addr} {o : HO} (R : Rel G ι S H) (hz : ι.z p) (hnt : ∀ xs, o ≠ .tup xs) : (∀ v d, Rep G ι (Lv ι S) H v d → Rep G ι (Lv ι S) (upd H p o) v d) ∧ (∀ vs ds, Reps G ι (Lv ι S) H vs ds → Reps G ι (Lv ι S) (upd H p o) vs ds) ∧ Rel G ι S (upd H p o) := by
  have ne : ∀ a, ¬ Lv ι S a → a ≠ p := fun a h e => h (e ▸ .inr hz)
  have go : ∀ a u, H a = some u → ¬ Lv ι S a → upd H p o a = some u := fun a u e h => by
    rw [upd_ne (ne a h)]
    exact e
  have rdgo : ∀ a u, Rd H a u → ¬ Lv ι S a → Rd (upd H p o) a u := fun a u e h => by
    rcases e with e | ⟨w, e⟩
    · exact .inl (go a _ e h)
    · exact .inr ⟨w, go a _ e h⟩
  have both : ∀ (n : Nat), (∀ v d, sizeOf d ≤ n → Rep G ι (Lv ι S) H v d → Rep G ι (Lv ι S) (upd H p o) v d) ∧ ∀ vs ds, sizeOf ds ≤ n → Reps G ι (Lv ι S) H vs ds → Reps G ι (Lv ι S) (upd H p o) vs ds := by
    intro n
    induction n with
    | zero =>
      refine ⟨fun v d h r => ?_, fun vs ds h r => ?_⟩
      · cases d <;> simp at h
      · cases ds with
        | nil => cases r; exact .nil
        | cons d ds => simp at h
    | succ n ih =>
      obtain ⟨i1, i2⟩ := ih
      have hK : ∀ {κ : Type} [SizeOf κ] (kds : List (κ × D)), sizeOf (kds.map (·.2)) ≤ sizeOf kds := fun kds => by
        induction kds with
        | nil => simp
        | cons k ks ih =>
          obtain ⟨k1, k2⟩ := k
          simp only [List.map_cons, List.cons.sizeOf_spec, Prod.mk.sizeOf_spec]
          omega
      refine ⟨fun v d h r => ?_, fun vs ds h r => ?_⟩
      · cases r with
        | non => exact .non
        | bl b => exact .bl b
        | int i => exact .int i
        | str s => exact .str s
        | con a => exact .con a
        | ty n => exact .ty n
        | tup q k r => exact .tup (go _ _ q k) k (i2 _ _ (by simp at h; omega) r)
        | wtp q r => exact .wtp q (i2 _ _ (by simp at h; omega) r)
        | lst q k r => exact .lst (go _ _ q k) k (i2 _ _ (by simp at h; omega) r)
        | scr q r =>
          refine .scr ?_ (i2 _ _ (by simp at h; omega) r)
          rcases q with q | q
          · exact .inl ⟨rdgo _ _ q.1 q.2, q.2⟩
          · exact .inr q
        | @dK _ _ kds q k e r => exact .dK (go _ _ q k) k e (i2 _ _ (by simp only [D.dK.sizeOf_spec] at h; exact Nat.le_trans (hK kds) (by omega)) r)
        | @dT _ _ kds q k e r => exact .dT (go _ _ q k) k e (i2 _ _ (by simp only [D.dT.sizeOf_spec] at h; exact Nat.le_trans (hK kds) (by omega)) r)
        | obj q k e r => exact .obj (go _ _ q k) k e (i2 _ _ (by simp at h; omega) r)
        | ref q => exact .ref q
        | err q1 q2 k r => exact .err q1 (go _ _ q2 k) k (i1 _ _ (by simp at h; omega) r)
      · cases r with
        | nil => exact .nil
        | cons r0 rs => exact .cons (i1 _ _ (by simp at h; omega) r0) (i2 _ _ (by simp at h; omega) rs)
  have b1 : ∀ v d, Rep G ι (Lv ι S) H v d → Rep G ι (Lv ι S) (upd H p o) v d := fun v d r => (both (sizeOf d)).1 v d (Nat.le_refl _) r
  have b2 : ∀ vs ds, Reps G ι (Lv ι S) H vs ds → Reps G ι (Lv ι S) (upd H p o) vs ds := fun vs ds r => (both (sizeOf ds)).2 vs ds (Nat.le_refl _) r
  have np : p ∉ ι.l := (R.ztr p hz).2
  refine ⟨b1, b2, R.len, R.nd, fun n c h => ?_, fun a h => ?_, fun a h => ?_⟩
  · obtain ⟨a, h1, h2⟩ := R.cell n c h
    have na : a ≠ p := fun e => np (e ▸ List.mem_of_getElem? h1)
    refine ⟨a, h1, ?_⟩
    cases c with
    | lst ds =>
      obtain ⟨vs, a1, a2⟩ := h2
      exact ⟨vs, (upd_ne na).trans a1, b2 _ _ a2⟩
    | dK ds =>
      obtain ⟨vs, a1, a3, a2⟩ := h2
      exact ⟨vs, (upd_ne na).trans a1, a3, b2 _ _ a2⟩
    | dT ds =>
      obtain ⟨vs, a1, a3, a2⟩ := h2
      exact ⟨vs, (upd_ne na).trans a1, a3, b2 _ _ a2⟩
    | ins c fs =>
      obtain ⟨dx, vs, a1, a3, a2⟩ := h2
      exact ⟨dx, vs, (upd_ne na).trans a1, a3, b2 _ _ a2⟩
  · obtain ⟨u, e⟩ := R.trk a h
    have na : a ≠ p := fun z => np (z ▸ h)
    exact ⟨u, by rw [upd_ne na]; exact e⟩
  · obtain ⟨⟨u, e, n⟩, q⟩ := R.ztr a h
    refine ⟨?_, q⟩
    by_cases z : a = p
    · exact ⟨o, by rw [z]; exact upd_same, hnt⟩
    · exact ⟨u, by rw [upd_ne z]; exact e, n⟩
theorem Post.stepN {Ea : XK} {E' : XK} {ιb ι : Ix} {Sb S : Sto} {Hb H : Hp} {α β : Type} {P : α → Ix → Sto → Hp → Prop} {P' : β → Ix → Sto → Hp → Prop} {r : Res α} {k : α → Sto → Res β} (p : Post G Ea ιb Sb Hb P' (r.bindN k))
    (hk : ∀ a S1 ι1 H1, Ext ι S H ι1 S1 H1 → Rel G ι1 S1 H1 → Post G Ea ιb Sb Hb P' (k a S1) → P a ι1 S1 H1) : Post G E' ι S H P r := by
  cases r with
  | ok a S2 => exact fun ι2 H2 y R => hk a S2 ι2 H2 y R p
  | ex c d S2 => exact p.elim
  | stuck => exact p
theorem wipe_wipe {own : List Nat} : ∀ (us : List Nat) (τ : L2.St), (∀ u ∈ us, u ∈ own) → wipe (wipe τ us) own = wipe τ own
  | [], τ, _ => rfl
  | u :: us, τ, hu => by
    show wipe ((wipe τ us).set u none) own = _
    rw [wipe_set (hu u (by simp)), wipe_wipe us τ fun w hw => hu w (by simp [hw])]
theorem snd_lc {wi : TI} {g : TG} {tt : TT} {te : TE} {sl own : List Nat} {ci : Env → Sto → Res Wk} {cg : D → Env → Sto → Res Env} {ct : TCode} {ca : ECode} (si : SndIt G E wi ci) (sg : SndG G sl g cg) (st : SndT G (fun _ => E0) tt ct) (sa : Snd G (fun _ => E0) te ca) (hsl : ∀ i ∈ sl, i ∈ own) :
    Snd G E (tLc wi g tt te own) (c_lc ci cg ct ca own) := fun ι S H σ ρ Q R e q => by
  refine si ι S H σ ρ _ R e (Post.bind q fun wk S1 ι1 H1 x1 R1 q1 J hJ => ?_)
  intro Dl hD
  by_cases hf : fits wk.items.length = true
  · rw [if_pos hf] at q1
    have hfl := fits_lt hf
    have np : Dl ∉ ι1.l := fun z => by
      obtain ⟨u, h⟩ := R1.trk Dl z
      rw [hD] at h
      cases h
    have w1 : REnv G ι1 S1 H1 (wipe σ own) (wipeE ρ own) := (e.mono x1).wipe own
    -- the state while the list is built
    refine ⟨fun i m H' => m = wk.items.length - i ∧ i ≤ wk.items.length ∧ ∃ (ι2 : Ix) (S2 : Sto) (av : List V) (ad : List D), Ext ι1 S1 H1 ι2 S2 H' ∧ Rel G ι2 S2 H' ∧ ι2.z Dl ∧ H' Dl = some (.lst av) ∧ Reps G ι2 (Lv ι2 S2) H' av ad ∧ ad.length ≤ i ∧
      Post G (E σ) ι1 S1 H1 (fun ys ι' S' H'' => ∀ v, Rep G ι' (Lv ι' S') H'' v (.lst (ad ++ ys)) → Q v H'') (lcL wk.ok cg ct ca (wipeE ρ own) (wk.items.drop i) S2), ⟨_, rfl, Nat.zero_le _, ?_⟩, ?_⟩
    · have R2 : Rel G ι1 S1 (upd H1 Dl (.lst [])) := R1.same (keepNew hD)
      have x0 : Ext ι1 S1 H1 ι1 S1 (upd H1 Dl (.lst [])) := Ext.same (keepNew hD)
      have xh : Ext ι1 S1 H1 (ι1.hide Dl) S1 (upd H1 Dl (.lst [])) := by
        refine ⟨⟨[], by simp⟩, fun a z => .inl z, fun a z => ?_, x0.trk, x0.liv, x0.keep⟩
        rcases z with z | z
        · exact .inl z
        · exact .inr (by rw [z]; exact hD)
      refine ⟨ι1.hide Dl, S1, [], [], xh, ⟨R2.len, R2.nd, fun n c h => ?_, R2.trk, fun a z => ?_⟩, .inr rfl, upd_same, .nil, Nat.zero_le _, ?_⟩
      · obtain ⟨a, h1, h2⟩ := R1.cell n c h
        exact ⟨a, h1, h2.mono xh (upd_ne fun z => np (z ▸ List.mem_of_getElem? h1))⟩
      · rcases z with z | z
        · exact R2.ztr a z
        · rw [z]
          exact ⟨⟨_, upd_same, fun _ h => nomatch h⟩, np⟩
      · rw [List.drop_zero]
        exact Post.bind q1 fun ys S3 ι3 H3 x3 R3 q3 v r => Post.here R3 q3 v r
    · rintro i m H2 ⟨rfl, hi, ι2, S2, av, ad, x2, R2, z2, d2, r2, l2, q2⟩
      by_cases hlt : i < wk.items.length
      · rw [List.drop_eq_getElem_cons hlt] at q2
        unfold lcL at q2
        split at q2
        · rename_i hok
          obtain ⟨_, hw⟩ := hJ ι2 S2 H2 x2 R2 hok
          obtain ⟨hgo, hy⟩ := hw i wk.items[i] (by simp [hlt])
          refine .inr ⟨hgo, fun H' => i + 1 ≤ wk.items.length ∧ ∃ (ι2 : Ix) (S2 : Sto) (av : List V) (ad : List D), Ext ι1 S1 H1 ι2 S2 H' ∧ Rel G ι2 S2 H' ∧ ι2.z Dl ∧ H' Dl = some (.lst av) ∧ Reps G ι2 (Lv ι2 S2) H' av ad ∧ ad.length ≤ i + 1 ∧
            Post G (E σ) ι1 S1 H1 (fun ys ι' S' H'' => ∀ v, Rep G ι' (Lv ι' S') H'' v (.lst (ad ++ ys)) → Q v H'') (lcL wk.ok cg ct ca (wipeE ρ own) (wk.items.drop (i + 1)) S2), fun H' h => ⟨wk.items.length - (i + 1), by omega, rfl, h.1, h.2⟩, fun x H3 hx => ?_⟩
          obtain ⟨x3, R3, r3, k3⟩ := hy x H3 hx
          have e3 : REnv G ι2 S2 H3 (wipe σ own) (wipeE ρ own) := w1.mono (x2.trans x3)
          refine sg E0 ι2 S2 H3 (wipe σ own) (wipeE ρ own) x _ _ R3 e3 r3 (Post.stepN q2 fun ρ4 S4 ι4 H4 x4 R4 q4 σ4 e4 hw4 => ⟨?_, ?_⟩)
          · rw [hw4 own hsl]
            exact wipe_wipe own σ fun _ h => h
          · refine st ι4 S4 H4 σ4 ρ4 _ R4 e4 (Post.stepN q4 fun b S5 ι5 H5 x5 R5 q5 => ?_)
            have x35 : Ext ι2 S2 H3 ι5 S5 H5 := x4.trans x5
            have nl : ∀ {ι' : Ix} {S' : Sto} {H' : Hp}, Rel G ι' S' H' → ι'.z Dl → ¬ Liv ι' S' Dl := fun R' z' h => by
              obtain ⟨n, c, h1, _⟩ := h
              exact (R'.ztr Dl z').2 (List.mem_of_getElem? h1)
            have d3 : H3 Dl = some (.lst av) := k3 Dl _ d2
            have d5 : H5 Dl = some (.lst av) := x35.keep Dl _ d3 (nl R3 z2)
            have z5 : ι5.z Dl := x35.zs Dl z2
            have r5 : Reps G ι5 (Lv ι5 S5) H5 av ad := (r2.mono x3).mono x35
            show (if b = true then _ else _)
            cases b with
            | true =>
              rw [if_pos rfl] at q5 ⊢
              refine sa ι5 S5 H5 σ4 ρ4 _ R5 (e4.mono x5) (Post.stepN q5 fun y S6 ι6 H6 x6 R6 q6 v r6 => ?_)
              have d6 : H6 Dl = some (.lst av) := x6.keep Dl _ d5 (nl R5 z5)
              have z6 : ι6.z Dl := x6.zs Dl z5
              obtain ⟨hr1, hr2, R7⟩ := R6.hid (o := .lst (av ++ [v])) z6 (fun _ h => nomatch h)
              have xx : Ext ι1 S1 H1 ι6 S6 H6 := (((x2.trans x3).trans x35).trans x6)
              refine ⟨av, d6, ?_, hlt, ι6, S6, av ++ [v], ad ++ [y], xx.hid hD, R7, z6, upd_same, hr2 _ _ ((r5.mono x6).app (.cons r6 .nil)), ?_, ?_⟩
              · rw [r5.length]
                omega
              · simp
                omega
              · cases hc : lcL wk.ok cg ct ca (wipeE ρ own) (wk.items.drop (i + 1)) S6 with
                | ok ys S8 =>
                  rw [hc] at q6
                  intro ι8 H8 x8 R8 v rv
                  rw [List.append_assoc, List.singleton_append] at rv
                  exact q6 ι8 H8 x8 R8 v rv
                | ex c d S8 =>
                  rw [hc] at q6
                  exact q6
                | stuck =>
                  rw [hc] at q6
                  exact q6
            | false =>
              rw [if_neg Bool.false_ne_true] at q5 ⊢
              exact ⟨hlt, ι5, S5, av, ad, (x2.trans x3).trans x35, R5, z5, d5, r5, by omega, q5⟩
        · exact q2.elim
      · have ei : i = wk.items.length := by omega
        subst ei
        rw [List.drop_length] at q2
        unfold lcL at q2
        split at q2
        · rename_i hok
          refine .inl ⟨(hJ ι2 S2 H2 x2 R2 hok).1, ?_⟩
          have nz : ∀ a, ι1.z a → a ≠ Dl := fun a z e' => by
            obtain ⟨⟨u, h, _⟩, _⟩ := R1.ztr a z
            rw [e', hD] at h
            cases h
          have hw : ∀ a, Lv ⟨ι2.l, fun a => ι2.z a ∧ a ≠ Dl⟩ S2 a → Lv ι2 S2 a := fun a z => by
            rcases z with z | z
            · exact .inl z
            · exact .inr z.1
          have xu : Ext ι1 S1 H1 ⟨ι2.l, fun a => ι2.z a ∧ a ≠ Dl⟩ S2 H2 := ⟨x2.pre, fun a z => ⟨x2.zs a z, nz a z⟩, fun a z => x2.zn a z.1, x2.trk, x2.liv, x2.keep⟩
          have fin := q2 _ H2 xu R2.unhide (.ref Dl) (.lst d2 (fun z => ?_) (by rw [List.append_nil]; exact r2.weak (ι := ι2) (ι' := ⟨ι2.l, fun a => ι2.z a ∧ a ≠ Dl⟩) hw rfl))
          · exact fin
          · rcases z with ⟨n, c, h1, _⟩ | z
            · exact (R2.ztr Dl z2).2 (List.mem_of_getElem? h1)
            · exact z.2 rfl
        · exact q2.elim
  · rw [if_neg hf] at q1
    exact q1.elim
/-- the contexts of a comprehension's block -/
abbrev Blk {I : Type} (Xs : I → Cx) (scope : Scope) : I × Shared × Hp × Addr × List (Str × Addr) × List Addr → Cx :=
  fun p => (Xs p.1).blk p.2.1 p.2.2.1 scope (compEnvC scope p.2.2.2.2.1 p.2.2.2.1 (Xs p.1).env) p.2.2.2.2.2
theorem Fam.blk (F : Fam Xs G E kk) (scope : Scope) : Fam (Blk Xs scope) G (fun _ => E0) kk := ⟨⟨fun p => F.P p.1, fun p => F.w p.1, fun p => F.K p.1, fun p => F.mg p.1, fun p => F.base p.1, fun p => F.nd p.1, fun p => F.gd p.1, fun p => F.u64 p.1, fun p => takes0⟩, fun p => F.calm p.1, fun p => F.room p.1⟩
theorem de_lc (F : Fam Xs G E kk) {elt tg iter : Expr} {ifs : List Expr} {scope : Scope} {own : List (Str × Nat)} {pos : Pos} {sl : List Nat} {ci : Env → Sto → Res Wk} {cg : D → Env → Sto → Res Env} {ct : TCode} {ca : ECode} (hi : DI Xs G E tg iter ci)
    (ok : ∀ j, BlkOk (Xs j).N (Xs j).env.scope scope own) (hg : DG (Blk Xs scope) G tg sl cg) (ht : DTs (Blk Xs scope) G (fun _ => E0) ifs ct) (he : DE (Blk Xs scope) G (fun _ => E0) elt ca) (hsl : ∀ i ∈ sl, i ∈ own.map (·.2)) (hs : ∀ j x, foldedSetIterable iter (Xs j).env x = pure x) :
    DE Xs G E (.ListComp elt [⟨tg, iter, ifs, 0⟩] scope pos) (c_lc ci cg ct ca (own.map (·.2))) := by
  obtain ⟨wi, pi, si⟩ := hi
  obtain ⟨gg, pg, sg⟩ := hg
  obtain ⟨tt, pt, st⟩ := ht
  obtain ⟨te, pe, se⟩ := he
  exact ⟨_, fun j => pe_lc (F.calm j) (F.nd j) (pi j) (ok j) (fun s H C cl fp => pg (j, s, H, C, cl, fp)) (fun s H C cl fp => pt (j, s, H, C, cl, fp)) (fun s H C cl fp => pe (j, s, H, C, cl, fp)) (hs j), snd_lc si sg st se hsl⟩
theorem ds_setLc (F : Fam Xs G E kk) {i : Nat} {y : Str} {py : Pos} {elt tg iter : Expr} {ifs : List Expr} {scope : Scope} {own : List (Str × Nat)} {pos spos : Pos} {sl : List Nat} {ci : Env → Sto → Res Wk} {cg : D → Env → Sto → Res Env} {ct : TCode} {ca : ECode}
    (hy : ∀ j, (Xs j).N[i]? = some y) (hyl : ∀ j, (Xs j).env.scope.names.lookup y = some .local) (hsw : ∀ j, swapsWith (.ListComp elt [⟨tg, iter, ifs, 0⟩] scope pos) (some (.Name y py)) spos.line (Xs j).env = pure true) (hi : DI Xs G E tg iter ci)
    (ok : ∀ j, BlkOk (Xs j).N (Xs j).env.scope scope own) (hg : DG (Blk Xs scope) G tg sl cg) (ht : DTs (Blk Xs scope) G (fun _ => E0) ifs ct) (he : DE (Blk Xs scope) G (fun _ => E0) elt ca) (hsl : ∀ i ∈ sl, i ∈ own.map (·.2)) (hs : ∀ j x, foldedSetIterable iter (Xs j).env x = pure x) :
    DS Xs G E (.Assign [.Name y py] (.ListComp elt [⟨tg, iter, ifs, 0⟩] scope pos) spos) (c_set i (c_lc ci cg ct ca (own.map (·.2)))) := by
  obtain ⟨wi, pi, si⟩ := hi
  obtain ⟨gg, pg, sg⟩ := hg
  obtain ⟨tt, pt, st⟩ := ht
  obtain ⟨te, pe, se⟩ := he
  refine ⟨_, fun j => ps_setLc (F.calm j) (F.nd j) (hy j) (hyl j) (hsw j) (pi j) (ok j) (fun s H C cl fp => pg (j, s, H, C, cl, fp)) (fun s H C cl fp => pt (j, s, H, C, cl, fp)) (fun s H C cl fp => pe (j, s, H, C, cl, fp)) (hs j), fun ι S H σ ρ Dn R e q => ?_⟩
  exact (snd_lc si sg st se hsl).go R e q fun d S1 ι1 H1 v x1 R1 e1 r1 q1 => Post.here R1 q1 _ (e1.set r1 i)
end
end DL
set_option Elab.async false
set_option linter.all false
set_option maxRecDepth 100000
set_option maxHeartbeats 4000000
/-! DL4: defs, their mirrors, their calls -/
namespace DL
open PySem PySem.Spec PyProof.Rows L2
/-! ### behind a call the cells that are the call's own are forgotten -/
mutual
def refsLt (n : Nat) : D → Bool
  | .tup ds => refsLtL n ds
  | .lst ds => refsLtL n ds
  | .scr ds => refsLtL n ds
  | .wtp ds => refsLtL n ds
  | .dK kvs => refsLtK n kvs
  | .dT kvs => refsLtT n kvs
  | .obj _ fs => refsLtL n fs
  | .ref m => decide (m < n)
  | .non => true
  | .bl _ => true
  | .int _ => true
  | .str _ => true
  | .con _ => true
  | .err _ d => refsLt n d
  | .ty _ => true
def refsLtL (n : Nat) : List D → Bool
  | [] => true
  | d :: ds => refsLt n d && refsLtL n ds
def refsLtK (n : Nat) : List (Key × D) → Bool
  | [] => true
  | (_, d) :: ds => refsLt n d && refsLtK n ds
def refsLtT (n : Nat) : List (List Key × D) → Bool
  | [] => true
  | (_, d) :: ds => refsLt n d && refsLtT n ds
end
def cellLt (n : Nat) : Option Cell → Bool
  | none => true
  | some (.lst ds) => refsLtL n ds
  | some (.dK kvs) => refsLtK n kvs
  | some (.dT kvs) => refsLtT n kvs
  | some (.ins _ fs) => refsLtL n fs
theorem refsLtK_map {n : Nat} : ∀ {kvs : List (Key × D)}, refsLtK n kvs = true → refsLtL n (kvs.map (·.2)) = true
  | [], _ => rfl
  | (k, d) :: r, h => by
    simp only [refsLtK, Bool.and_eq_true] at h
    simp only [List.map_cons, refsLtL, Bool.and_eq_true]
    exact ⟨h.1, refsLtK_map h.2⟩
theorem refsLtT_map {n : Nat} : ∀ {kvs : List (List Key × D)}, refsLtT n kvs = true → refsLtL n (kvs.map (·.2)) = true
  | [], _ => rfl
  | (k, d) :: r, h => by
    simp only [refsLtT, Bool.and_eq_true] at h
    simp only [List.map_cons, refsLtL, Bool.and_eq_true]
    exact ⟨h.1, refsLtT_map h.2⟩
theorem refsLtK_of {n : Nat} : ∀ {kvs : List (Key × D)}, refsLtL n (kvs.map (·.2)) = true → refsLtK n kvs = true
  | [], _ => rfl
  | (k, d) :: r, h => by
    simp only [List.map_cons, refsLtL, Bool.and_eq_true] at h
    simp only [refsLtK, Bool.and_eq_true]
    exact ⟨h.1, refsLtK_of h.2⟩
theorem refsLtT_of {n : Nat} : ∀ {kvs : List (List Key × D)}, refsLtL n (kvs.map (·.2)) = true → refsLtT n kvs = true
  | [], _ => rfl
  | (k, d) :: r, h => by
    simp only [List.map_cons, refsLtL, Bool.and_eq_true] at h
    simp only [refsLtT, Bool.and_eq_true]
    exact ⟨h.1, refsLtT_of h.2⟩
section
variable {G : Gx} {E : XK} {ι ι' : Ix} {S S' : Sto} {H H' : Hp}
mutual
theorem Rep.cut {L L' : Addr → Prop} {n : Nat} (h : ∀ a, L' a → L a) (hl : ∀ m, m < n → ι'.l[m]? = ι.l[m]?) : ∀ {v : V} {d : D}, refsLt n d = true → Rep G ι L H v d → Rep G ι' L' H v d
  | _, _, _, .non => .non
  | _, _, _, .bl b => .bl b
  | _, _, _, .int i => .int i
  | _, _, _, .str x => .str x
  | _, _, _, .con a => .con a
  | _, _, _, .ty n => .ty n
  | _, _, c, .tup q k r => .tup q (fun z => k (h _ z)) (Reps.cut h hl c r)
  | _, _, c, .wtp q r => .wtp q (Reps.cut h hl c r)
  | _, _, c, .lst q k r => .lst q (fun z => k (h _ z)) (Reps.cut h hl c r)
  | _, _, c, .scr (.inl q) r => .scr (.inl ⟨q.1, fun z => q.2 (h _ z)⟩) (Reps.cut h hl c r)
  | _, _, c, .scr (.inr q) r => .scr (.inr q) (Reps.cut h hl c r)
  | _, _, c, .dK q k e r => .dK q (fun z => k (h _ z)) e (Reps.cut h hl (refsLtK_map c) r)
  | _, _, c, .dT q k e r => .dT q (fun z => k (h _ z)) e (Reps.cut h hl (refsLtT_map c) r)
  | _, _, c, .obj q k e r => .obj q (fun z => k (h _ z)) e (Reps.cut h hl c r)
  | _, _, c, .ref q => .ref (by rw [hl _ (of_decide_eq_true c)]; exact q)
  | _, _, c, .err q1 q2 k r => .err q1 q2 (fun z => k (h _ z)) (Rep.cut h hl c r)
theorem Reps.cut {L L' : Addr → Prop} {n : Nat} (h : ∀ a, L' a → L a) (hl : ∀ m, m < n → ι'.l[m]? = ι.l[m]?) : ∀ {vs : List V} {ds : List D}, refsLtL n ds = true → Reps G ι L H vs ds → Reps G ι' L' H vs ds
  | _, _, _, .nil => .nil
  | _, _, c, .cons q r => by
    simp only [refsLtL, Bool.and_eq_true] at c
    exact .cons (Rep.cut h hl c.1 q) (Reps.cut h hl c.2 r)
end
mutual
theorem Rep.lt {L : Addr → Prop} : ∀ {v : V} {d : D}, Rep G ι L H v d → refsLt ι.l.length d = true
  | _, _, .non => rfl
  | _, _, .bl b => rfl
  | _, _, .int i => rfl
  | _, _, .str x => rfl
  | _, _, .con a => rfl
  | _, _, .ty n => rfl
  | _, _, .tup _ _ r => r.lt
  | _, _, .wtp _ r => r.lt
  | _, _, .lst _ _ r => r.lt
  | _, _, .scr _ r => r.lt
  | _, _, .dK _ _ _ r => refsLtK_of r.lt
  | _, _, .dT _ _ _ r => refsLtT_of r.lt
  | _, _, .obj _ _ _ r => r.lt
  | _, _, .ref q => decide_eq_true (List.getElem?_eq_some_iff.mp q).1
  | _, _, .err _ _ _ r => r.lt
theorem Reps.lt {L : Addr → Prop} : ∀ {vs : List V} {ds : List D}, Reps G ι L H vs ds → refsLtL ι.l.length ds = true
  | _, _, .nil => rfl
  | _, _, .cons q r => by
    simp only [refsLtL, Bool.and_eq_true]
    exact ⟨q.lt, r.lt⟩
end
theorem Rel.cellLt (R : Rel G ι S H) {n : Nat} {c : Option Cell} (h : S[n]? = some c) : DL.cellLt S.length c = true := by
  cases c with
  | none => rfl
  | some c =>
    obtain ⟨a, h1, h2⟩ := R.cell n c h
    rw [← R.len]
    cases c with
    | lst ds =>
      obtain ⟨vs, _, r⟩ := h2
      exact r.lt
    | dK ds =>
      obtain ⟨vs, _, _, r⟩ := h2
      exact refsLtK_of r.lt
    | dT ds =>
      obtain ⟨vs, _, _, r⟩ := h2
      exact refsLtT_of r.lt
    | ins c fs =>
      obtain ⟨dx, vs, _, _, r⟩ := h2
      exact r.lt
/-- may the cells from n on be forgotten? -/
def cutOk (S S' : Sto) : Prop := ∀ (n : Nat) (c : Option Cell), n < S.length → S'[n]? = some c → S[n]? = some c ∨ cellLt S.length c = true
theorem cut_ok (x : Ext ι S H ι' S' H') (R : Rel G ι S H) (R' : Rel G ι' S' H') (hc : cutOk S S') :
    Ext ι S H ⟨ι.l, ι'.z⟩ (S'.take S.length) H' ∧ Rel G ⟨ι.l, ι'.z⟩ (S'.take S.length) H' ∧ ∀ v d, refsLt S.length d = true → Rep G ι' (Lv ι' S') H' v d → Rep G ⟨ι.l, ι'.z⟩ (Lv ⟨ι.l, ι'.z⟩ (S'.take S.length)) H' v d := by
  obtain ⟨t, ht⟩ := x.pre
  have hlen : S.length ≤ S'.length := by
    rw [← R.len, ← R'.len, ht]
    simp
  have hix : ∀ m, m < S.length → ι.l[m]? = ι'.l[m]? := fun m hm => by
    rw [ht, List.getElem?_append_left (by rw [R.len]; exact hm)]
  have hst : ∀ m c, (S'.take S.length)[m]? = some c → m < S.length ∧ S'[m]? = some c := fun m c h => by
    rw [List.getElem?_take] at h
    split at h
    · rename_i hm
      exact ⟨hm, h⟩
    · cases h
  have hw : ∀ a, Lv ⟨ι.l, ι'.z⟩ (S'.take S.length) a → Lv ι' S' a := fun a z => by
    rcases z with ⟨m, c, h1, h2⟩ | z
    · obtain ⟨hm, h2⟩ := hst m _ h2
      have h1 : ι.l[m]? = some a := h1
      rw [hix m hm] at h1
      exact .inl ⟨m, c, h1, h2⟩
    · exact .inr z
  refine ⟨⟨⟨[], by simp⟩, x.zs, x.zn, x.trk, fun a z => ?_, x.keep⟩, ⟨?_, R.nd, fun m c h => ?_, fun a h => ?_, fun a z => ?_⟩, fun v d hd r => ?_⟩
  · obtain ⟨m, c, h1, h2⟩ := z
    obtain ⟨hm, h2⟩ := hst m _ h2
    have h1 : ι.l[m]? = some a := h1
    rw [hix m hm] at h1
    exact x.liv a ⟨m, c, h1, h2⟩
  · show ι.l.length = _
    rw [List.length_take, Nat.min_eq_left hlen]
    exact R.len
  · obtain ⟨hm, h2⟩ := hst m _ h
    obtain ⟨a, h1, h3⟩ := R'.cell m c h2
    have hlt : cellLt S.length (some c) = true := by
      rcases hc m (some c) hm h2 with q | q
      · exact R.cellLt q
      · exact q
    refine ⟨a, by rw [← hix m hm] at h1; exact h1, ?_⟩
    have hl : ∀ k, k < S.length → (⟨ι.l, ι'.z⟩ : Ix).l[k]? = ι'.l[k]? := hix
    cases c with
    | lst ds =>
      obtain ⟨vs, a1, a2⟩ := h3
      exact ⟨vs, a1, Reps.cut hw hl hlt a2⟩
    | dK ds =>
      obtain ⟨vs, a1, a3, a2⟩ := h3
      exact ⟨vs, a1, a3, Reps.cut hw hl (refsLtK_map hlt) a2⟩
    | dT ds =>
      obtain ⟨vs, a1, a3, a2⟩ := h3
      exact ⟨vs, a1, a3, Reps.cut hw hl (refsLtT_map hlt) a2⟩
    | ins c fs =>
      obtain ⟨dx, vs, a1, a3, a2⟩ := h3
      exact ⟨dx, vs, a1, a3, Reps.cut hw hl hlt a2⟩
  · obtain ⟨o, e⟩ := R.trk a h
    exact x.trk a o e
  · obtain ⟨q1, q2⟩ := R'.ztr a z
    exact ⟨q1, fun hm => q2 (by rw [ht]; exact List.mem_append_left _ hm)⟩
  · exact Rep.cut (ι := ι') (ι' := ⟨ι.l, ι'.z⟩) hw hix hd r
end
theorem cut_lv (x : Ext ι S H ι' S' H') (R : Rel G ι S H) {a : Addr} (z : Lv ⟨ι.l, ι'.z⟩ (S'.take S.length) a) : Lv ι' S' a := by
  obtain ⟨t, ht⟩ := x.pre
  rcases z with ⟨m, c, h1, h2⟩ | z
  · rw [List.getElem?_take] at h2
    split at h2
    · rename_i hm
      refine .inl ⟨m, c, ?_, h2⟩
      have h1 : ι.l[m]? = some a := h1
      rw [ht, List.getElem?_append_left (by rw [R.len]; exact hm)]
      exact h1
    · cases h2
  · exact .inr z
open Classical in
/-- a call's end: its own cells are forgotten where no one can reach them -/
noncomputable def fin (S : Sto) (d : D) (S' : Sto) : Res D := if S'.length = S.length then .ok d S' else if cutOk S S' ∧ refsLt S.length d = true then .ok d (S'.take S.length) else .ok d S'
open Classical in
noncomputable def finX (S : Sto) (c : Nat) (d : D) (S' : Sto) : Res D := if S'.length = S.length then .ex c d S' else if cutOk S S' ∧ refsLt S.length d = true then .ex c d (S'.take S.length) else .ex c d S'
/-- the mirror of a def: n slots, its body -/
noncomputable def fnR (n : Nat) (c : SCode) (ds : List D) (S : Sto) : Res D := match c (ds.map some ++ List.replicate (n - ds.length) none) S with
  | .ok (.rt d) S' => fin S d S'
  | .ok (.nx _) S' => fin S .non S'
  | .ex k d S' => finX S k d S'
  | _ => .stuck
section
variable {G : Gx} {E : XK} {ι : Ix} {S S' : Sto} {H : Hp}
theorem fin_ok {d : D} {Q : VK} (R : Rel G ι S H) (p : Post G E ι S H (PV G Q) (fin S d S')) : ∀ ι' H', Ext ι S H ι' S' H' → Rel G ι' S' H' → ∀ v, Rep G ι' (Lv ι' S') H' v d → Q v H' := fun ι' H' x R' v r => by
  unfold fin at p
  split at p
  · exact p ι' H' x R' v r
  · split at p
    · rename_i h
      obtain ⟨x2, R2, k⟩ := cut_ok x R R' h.1
      exact p _ H' x2 R2 v (k v d h.2 r)
    · exact p ι' H' x R' v r
theorem finX_ok {c : Nat} {d : D} {Q : VK} (R : Rel G ι S H) (p : Post G E ι S H (PV G Q) (finX S c d S')) : ∀ ι' H' dd v, Ext ι S H ι' S' H' → Rel G ι' S' H' → H' dd = some (.xd [(G.exf c, v)]) → ¬ Lv ι' S' dd → Rep G ι' (Lv ι' S') H' v d → E (.ref (G.exc c)) (some dd) H' := fun ι' H' dd v x R' hd nl r => by
  unfold finX at p
  split at p
  · exact p ι' H' dd v x R' hd nl r
  · split at p
    · rename_i h
      obtain ⟨x2, R2, k⟩ := cut_ok x R R' h.1
      exact p _ H' dd v x2 R2 hd (fun z => nl (cut_lv x R z)) (k v d h.2 r)
    · exact p ι' H' dd v x R' hd nl r
end
/-! ### a def keeps its mirror -/
def FnB (G : Gx) (k : Nat) (f : Addr) (fd : FuncData) (ps : List Str) (m : List D → Sto → Res D) : Prop :=
  ∀ (A : Around) (outer : List PySem.Env) (s : Shared) (H : Hp) (args : Args) (us : List Value) (vs : List V) (Q : VK) (E : XK) (ι : Ix) (S : Sto) (ds : List D), A.guards = some [] → Room k A → Env0 G.P G.w G.K G.mg G.base A outer s H →
    BindsTo s fd args (ps.zip us) → Vals vs us → Rel G ι S H → Reps G ι (Lv ι S) H vs ds → ds.length = ps.length → Post G E ι S H (PV G Q) (m ds S) → codeAny (model G.P G.w) A (.call (.ref f) args) (CR (L2.CX G.P G.w) outer G.P G.w H s Q E) s
theorem FnB.mono {G : Gx} {j k : Nat} {f : Addr} {fd : FuncData} {ps : List Str} {m : List D → Sto → Res D} (h : FnB G j f fd ps m) (hk : j ≤ k) : FnB G k f fd ps m :=
  fun A outer s H args us vs Q E ι S ds hg hr => h A outer s H args us vs Q E ι S ds hg (hr.mono hk)
/-- the entries of a def -/
structure FIdx (k : Nat) (qual : Str) (scope : Scope) (f : Addr) where
  cdv : Value
  A : Around
  outer : List PySem.Env
  s : Shared
  H : Hp
  room : Room k (A.deeper (envOfC qual scope s.heap.objs.size f cdv))
  gd : A.guards = some []
abbrev FnX (G : Gx) (k : Nat) (N : List Str) (qual : Str) (scope : Scope) (f : Addr) (E : XK) : FIdx k qual scope f → Cx :=
  fun i => cxOf (L2.CX G.P G.w) G.P G.w G.K G.mg G.base N qual scope f i.cdv i.A i.outer i.s i.H E
theorem fnX_fam {G : Gx} {k : Nat} {N ps : List Str} {qual : Str} {scope : Scope} {f : Addr} (S : FnScope N ps scope) (E : XK) : Fam (FnX G k N qual scope f E) G (fun _ => E) k :=
  ⟨⟨fun _ => rfl, fun _ => rfl, fun _ => rfl, fun _ => rfl, fun _ => rfl, fun _ => S.nd, fun i => i.gd, fun i => i.room.units, fun i => takes_of rfl rfl rfl rfl⟩, fun _ => rfl, fun i => i.room⟩
theorem start_env {G : Gx} {ι : Ix} {S : Sto} {H : Hp} {vs : List V} {ds : List D} (r : Reps G ι (Lv ι S) H vs ds) (N : List Str) : REnv G ι S H (L2.start N vs) (ds.map some ++ List.replicate (N.length - ds.length) none) := by
  unfold L2.start
  rw [r.length]
  refine ⟨by simp [r.length], fun i d h => ?_⟩
  by_cases hi : i < ds.length
  · rw [List.getElem?_append_left (by simpa using hi), List.getElem?_map] at h
    cases e : ds[i]? with
    | none =>
      rw [e] at h
      cases h
    | some d' =>
      rw [e] at h
      cases h
      obtain ⟨v, h1, h2⟩ := r.get e
      refine ⟨v, ?_, h2⟩
      rw [List.getElem?_append_left (by rw [List.length_map, r.length]; exact hi), List.getElem?_map, h1]
      rfl
  · rw [List.getElem?_append_right (by simpa using hi), List.getElem?_replicate] at h
    split at h <;> cases h
theorem FnB.of {G : Gx} {x qual : Str} {st : Stmt} {f : Addr} {fd : FuncData} {N ps : List Str} {k : Nat} {c : SCode} (F : Fun G.K x qual st f fd) (Sc : FnScope N ps (defScope st))
    (hb : ∀ E, DSs (FnX G k N qual (defScope st) f E) G (fun _ => E) (defBody st) c) : FnB G (k + 1) f fd ps (fnR N.length c) := by
  obtain ⟨oc, od, kV, doc, pm, an, cdv, ct, osl, rfl, lk, hcd⟩ := F.ex
  intro A outer s H args us vs Q E ι S ds hgd hr e0 hbi hv R r hl hp
  have hlv : vs.length = ps.length := r.length.trans hl
  -- the promise of the body, at this entry alone
  have KX : G.K.In s.heap := e0.mod.kin.keeps fun b o e => (e0.bs b o e).1
  have lim : s.heap.NoLimit := e0.mod.nolimit.keeps fun b o e => (e0.bs b o e).1
  have hkind : ∀ y ∈ ps.zip us, (defScope st).names.lookup y.1 = some .local ∨ ((defScope st).names.lookup y.1 = some .cell ∧ ((cellsFrom (s.heap.objs.size + 1) (defScope st).names []).lookup y.1).isSome = true) := by
    rintro ⟨n, v⟩ hy
    rcases Sc.par n (List.of_mem_zip hy).1 with q | q
    · exact .inl q
    · exact .inr ⟨q, PySem.W.cellsFrom_some _ _ _ (.inl q)⟩
  refine codeAny_call_function hr.depth (KX _ _ lk) rfl Sc.co Sc.gen rfl (PySem.W.codeRec_of KX hcd) (hbi _ _ _ _ ?_)
  refine wpAny_newFunctionEnv_cells Sc.kind hkind fun env he s1 z => ?_
  subst he
  refine ⟨lim.keeps z.toInCall.keep, codeAny_func ?_⟩
  obtain ⟨t, ht, sd⟩ := hb E
  have ht := ht ⟨cdv, A, outer, s, H, hr.deeper _, hgd⟩
  have I0 := inv_start (CX := L2.CX G.P G.w) (E := E) Sc hr.hd e0 hlv hv z
  have hq : t { nx := fun _ H' => Q .non H', rt := Q } (L2.start N vs) H := by
    refine sd ι S H _ _ _ R (start_env r N) ?_
    have hlN : N.length - ds.length = N.length - ds.length := rfl
    unfold fnR at hp
    cases hc : c (ds.map some ++ List.replicate (N.length - ds.length) none) S with
    | ok fl S' =>
      rw [hc] at hp
      cases fl with
      | nx ρ' => exact fun ι' H' y R' σ' _ => fin_ok R hp ι' H' y R' .non .non
      | rt d => exact fun ι' H' y R' v rv => fin_ok R hp ι' H' y R' v rv
      | bk ρ' => exact hp.elim
      | ct ρ' => exact hp.elim
    | ex k d S' =>
      rw [hc] at hp
      exact fun ι' H' dd v y R' hd nl rv => finX_ok R hp ι' H' dd v y R' hd nl rv
    | stuck =>
      rw [hc] at hp
      exact hp
  refine wpAny_mono (ht.run [] s1 (L2.start N vs) H _ I0 hq) (fun fl s' hs => ?_) fun e s' hs => hs
  cases fl with
  | ret u =>
    obtain ⟨v, σ', H', J, rv, q⟩ := hs
    exact ⟨v, H', J.os, J.bare, J.base, J.hok, rv, q⟩
  | next =>
    obtain ⟨σ', H', J, q⟩ := hs
    exact ⟨.non, H', J.os, J.bare, J.base, J.hok, rfl, q⟩
  | brk => exact hs.elim fun _ h => h.elim fun _ h => h.2.elim
  | cont => exact hs.elim fun _ h => h.elim fun _ h => h.2.elim
end DL
set_option Elab.async false
set_option linter.all false
set_option maxRecDepth 100000
set_option maxHeartbeats 4000000
/-! DL5: calls of defs, attributes, instances -/
namespace DL
open PySem PySem.Spec PyProof.Rows L2
/-- the promise that a mirror makes -/
def spM (G : Gx) (n : Nat) (m : List D → Sto → Res D) (vs : List V) (H : Hp) (Q : VK) (E : XK) : Prop :=
  ∃ (ι : Ix) (S : Sto) (ds : List D), Rel G ι S H ∧ Reps G ι (Lv ι S) H vs ds ∧ ds.length = n ∧ Post G E ι S H (PV G Q) (m ds S)
section
variable {I : Type} {Xs : I → Cx} {G : Gx} {E : WK} {kk k : Nat} {f : Addr} {fd : FuncData} {ps : List Str} {m : List D → Sto → Res D}
/-- the callee at an around that the caller gives -/
theorem run_at (F : Fam Xs G E kk) (j : I) (Fn : FnB G k f fd ps m) {A : Around} {E : XK} {H : Hp} {s : Shared} {Q : VK} {args : Args} {us : List Value} {vs : List V} (hg : A.guards = some []) (hr : Room k A)
    (e0 : Env0 (Xs j).prog (Xs j).w (Xs j).K (Xs j).mg (Xs j).base A (Xs j).stack s H) (hb : BindsTo s fd args (ps.zip us)) (r : Vals vs us) (h : spM G ps.length m vs H Q E) :
    codeAny (model (Xs j).prog (Xs j).w) A (.call (.ref f) args) (CR (L2.CX (Xs j).prog (Xs j).w) (Xs j).stack (Xs j).prog (Xs j).w H s Q E) s := by
  obtain ⟨ι, S, ds, R, rs, hl, q⟩ := h
  rw [F.P j, F.w j] at e0 ⊢
  rw [F.K j, F.mg j, F.base j] at e0
  exact Fn A _ s H args us vs Q E ι S ds hg hr e0 hb r R rs hl q
theorem run_B (F : Fam Xs G E kk) (j : I) (Fn : FnB G k f fd ps m) (hk : k ≤ kk) {pins : List (Addr × Obj)} {σ : L2.St} {H : Hp} {s : Shared} {Q : VK} {us : List Value} {kw : List (Str × Value)} {ws : List Value} {vs : List V} (Iv : Inv (Xs j) pins σ H s)
    (hb : BindsTo s fd ⟨us, kw⟩ (ps.zip ws)) (r : Vals vs ws) (h : spM G ps.length m vs H Q (E σ)) : wpAny (model (Xs j).prog (Xs j).w) (Xs j).A (call (.ref f) us kw) (EP (Xs j) pins σ Q) (Xs j).xe s := by
  refine wpAny_call (codeAny_mono (run_at F j Fn (F.gd j) ((F.room j).mono hk) Iv.env0 hb r h) fun r s' hq => ?_)
  cases r with
  | error e => exact F.pass j pins σ H s e s' Iv hq
  | ok fl =>
    cases fl with
    | ret u => exact Iv.after hq
    | next => exact hq.elim
    | brk => exact hq.elim
    | cont => exact hq.elim
/-- x(e, .., n = v, ..) -/
def c_callK (n m' : Nat) (g : List D → List D → List D) (m : List D → Sto → Res D) (a b : ACode) : ECode := fun ρ S => (a ρ S).bind fun ds S1 => (b ρ S1).bind fun es S2 => if ds.length = n ∧ es.length = m' then m (g ds es) S2 else .stuck
theorem de_callK0 (F : Fam Xs G E kk) (Fn : FnB G k f fd ps m) (hk : k ≤ kk) {x : Str} {p pos : Pos} {kws : List Keyword} {ks : List Str} {g : List Value → List Value → List Value} {gV : List V → List V → List V} {gD : List D → List D → List D} {b : ACode}
    (hg : ∀ j, Gl (Xs j) x) (hm : G.mg x = some (.ref f)) (hkp : PySem.W.keepIn G.K (.ref f) = true) (hb : KBn G.K fd ps 0 ks g gV) (hgD : ∀ (L : Addr → Prop) ι H vs ds zs es, Reps G ι L H vs ds → Reps G ι L H zs es → ds.length = 0 → es.length = ks.length → Reps G ι L H (gV vs zs) (gD ds es) ∧ (gD ds es).length = ps.length)
    (hkw : DKw Xs G E kws b) (hall : ∀ j, (backToKw pos (keywordEach kws (Xs j).env)).all (·.1.isSome) = true) (hks : ∀ j, (backToKw pos (keywordEach kws (Xs j).env)).filterMap (·.1) = ks)
    (hdb : (x == ("__debug__" : Str)) = false)
    (hpl : ∀ j, ((backTo pos (starEach [] (Xs j).env)).any (·.1) || (backToKw pos (keywordEach kws (Xs j).env)).any (·.1.isNone)) = false) :
    DE Xs G E (.Call (.Name x p) [] kws pos) (c_callK 0 ks.length gD m c_nil b) := by
  obtain ⟨tk, pk, sk⟩ := hkw
  refine ⟨fun σ H Q => tk σ H fun zs H2 => zs.length = ks.length ∧ spM G ps.length m (gV [] zs) H2 Q (E σ), fun j => ⟨fun pins s σ H Q Iv h => ?_⟩, fun ι S H σ ρ Q R e q => ?_⟩
  · refine wpAny_Call_Name_kw (ld_glob Iv (hg j) (by rw [F.mg j]; exact hm) ?_ hdb)
    refine PySem.W.callWith_KW0 (h₀ := (Xs j).base) Iv.ok.mod.kin (by rw [F.K j]; exact hkp) (hall j) ?_ (hpl j)
    refine thn ((pk j).run pos pins s σ H _ Iv h) fun ws s2 ⟨zs, H2, I2, rz, l2, q2⟩ => ⟨I2.kIn, ?_⟩
    rw [hks j]
    exact run_B F j Fn hk I2 (hb.to s2 [] ws (by rw [← F.K j]; exact I2.kIn) rfl (rz.length.symm.trans l2)) (hb.rel .nil rz) q2
  · have q : Post G (E σ) ι S H (PV G Q) ((b ρ S).bind fun es S2 => if ([] : List D).length = 0 ∧ es.length = ks.length then m (gD [] es) S2 else .stuck) := q
    refine sk.go R e q fun es S2 ι2 H2 zs x2 R2 e2 r2 q2 => ?_
    by_cases h : ([] : List D).length = 0 ∧ es.length = ks.length
    · rw [if_pos h] at q2
      obtain ⟨a1, a2⟩ := hgD _ _ _ _ _ _ _ .nil r2 h.1 h.2
      exact ⟨r2.length.trans h.2, ι2, S2, _, R2, a1, a2, q2⟩
    · rw [if_neg h] at q2
      exact q2.elim
/-- the class of an instance -/
def clsOf : D → Sto → Option Nat
  | .obj c _, _ => some c
  | .ref n, S => match S[n]? with
    | some (some (.ins c _)) => some c
    | _ => none
  | _, _ => none
def fldsOf : D → Sto → Option (List D)
  | .obj _ fs, _ => some fs
  | .ref n, S => match S[n]? with
    | some (some (.ins _ fs)) => some fs
    | _ => none
  | _, _ => none
theorem cls_at {ι : Ix} {S : Sto} {H : Hp} {v : V} {d : D} {c : Nat} (R : Rel G ι S H) (r : Rep G ι (Lv ι S) H v d) (h : clsOf d S = some c) :
    ∃ a dx nfs fs, v = .ref a ∧ H a = some (.ins (G.cls c) dx nfs) ∧ nfs.map (·.1) = (G.fns c).take fs.length ∧ Reps G ι (Lv ι S) H (nfs.map (·.2)) fs ∧ fldsOf d S = some fs := by
  cases r with
  | obj q k e r =>
    cases h
    exact ⟨_, _, _, _, rfl, q, e, r, rfl⟩
  | ref q =>
    rename_i a n
    unfold clsOf at h
    cases hs : S[n]? with
    | none =>
      simp only [hs] at h
      cases h
    | some o =>
      simp only [hs] at h
      cases o with
      | none => cases h
      | some cl =>
        cases cl with
        | ins c' fs =>
          cases h
          obtain ⟨a', h1, dx, nfs, h2, h3, h4⟩ := R.cell n _ hs
          rw [q] at h1
          cases h1
          refine ⟨a, dx, nfs, fs, rfl, h2, h3, h4, ?_⟩
          unfold fldsOf
          simp only [hs]
        | _ => cases h
  | _ => cases h
/-- o.f, a property whose getter is a def -/
def c_prop (c : Nat) (m : List D → Sto → Res D) (a : ECode) : ECode := fun ρ S => (a ρ S).bind fun d S1 => if clsOf d S1 = some c then (m [d] S1).bindN .ok else .stuck
theorem de_prop (F : Fam Xs G E kk) (Fn : FnB G k f fd ps m) (hk : k + 1 ≤ kk) {c : Nat} {pr : Addr} {nm : Str} {o : Expr} {pos : Pos} {a : ECode} (hc : Cls G.K (G.cls c)) (hp : PropOf G.K (G.cls c) nm pr f) (hb : Binds G.K fd ps []) (hps : ps.length = 1)
    (hab : ∀ j, attributeBase o nm (Xs j).env (eval o (Xs j).env) = eval o (Xs j).env) (ho : DE Xs G E o a) : DE Xs G E (.Attribute o nm pos) (c_prop c m a) := by
  obtain ⟨t, pa, sa⟩ := ho
  refine ⟨fun σ H Q => t σ H fun x H1 => ∃ a dx fs, x = .ref a ∧ H1 a = some (.ins (G.cls c) dx fs) ∧ spM G ps.length m [.ref a] H1 Q E0, fun j => ⟨fun pins s σ H Q Iv h => ?_⟩, fun ι S H σ ρ Q R e q => ?_⟩
  · refine attr_of (hab j) (thn ((pa j).run pins s σ H _ Iv h) fun u s1 ⟨x, H1, I1, rx, a, dx, fs, ex, ea, q⟩ => ?_)
    subst ex
    obtain rfl : u = Value.ref a := rx
    have hc' : Cls (Xs j).K (G.cls c) := by rw [F.K j]; exact hc
    have hp' : PropOf (Xs j).K (G.cls c) nm pr f := by rw [F.K j]; exact hp
    obtain ⟨mA, O, _, _, _, _⟩ := ins_get I1.hok ea
    obtain ⟨od, J, _⟩ := O.look
    obtain ⟨rest, hrec⟩ := hp'.rec_
    have I2 := I1.tok (s1.toks + 1)
    have hcl : (PySem.W.clsIn (Xs j).K (G.cls c)).isSome = true := by
      obtain ⟨cd, h1, _⟩ := PySem.W.any_some hc'.hd
      rw [h1]
      rfl
    refine PySem.W.get_bind I1.kIn J (PySem.W.plainGet_of (hc'.get nm)).1 (PySem.W.findObj_data hcl hp'.at_ hp'.get hp'.tak) (PySem.W.plainGet_of (hc'.get nm)).2 (wpAny_call (PySem.W.prop_get (s := { s1 with toks := s1.toks + 1 }) I1.kIn hrec ?_))
    have hbi := hb { s1 with toks := s1.toks + 1 } [.ref a] (by rw [← F.K j]; exact I2.kIn) (by rw [hps]; rfl)
    refine codeAny_mono (run_at F j Fn (F.gd j) (((F.room j).mono hk).in1) I2.env0.in1 hbi (vs := [.ref a]) (.cons (show L2.RelV (.ref a) (Value.ref a) from rfl) .nil) q) fun r s' hq => ?_
    cases r with
    | error er =>
      obtain ⟨_, _, _, _, _, _, _, _, _, _, _, _, z⟩ := hq
      exact z.elim
    | ok fl =>
      cases fl with
      | ret u =>
        obtain ⟨v, H', I3, rv, q3⟩ := I2.after hq
        show wpAny _ _ (handedOut u) _ _ _
        rw [PySem.W.handedOut_of (handed_of rv)]
        exact wpAny_pure ⟨v, H', I3, rv, q3⟩
      | next => exact hq.elim
      | brk => exact hq.elim
      | cont => exact hq.elim
  · refine sa.go R e q fun d S1 ι1 H1 v x1 R1 e1 r1 q1 => ?_
    by_cases h : clsOf d S1 = some c
    · rw [if_pos h] at q1
      obtain ⟨a, dx, nfs, fs, rfl, h2, _⟩ := cls_at R1 r1 h
      exact ⟨a, dx, nfs, rfl, h2, ι1, S1, [d], R1, .cons r1 .nil, hps.symm, Post.bindN q1 fun y S2 ι2 H2 x2 R2 q2 => Post.here R2 q2⟩
    · rw [if_neg h] at q1
      exact q1.elim
theorem lookup_ix : ∀ {nfs : List (Str × V)} {ns : List Str} {i : Nat} {nm : Str} {v : V}, nfs.map (·.1) = ns → ns.Nodup → ns[i]? = some nm → (nfs.map (·.2))[i]? = some v → nfs.lookup nm = some v
  | [], _, _, _, _, _, _, _, h => by simp at h
  | (n, w) :: r, ns, 0, nm, v, e, nd, h1, h2 => by
    subst e
    simp at h1 h2
    subst h1
    subst h2
    simp
  | (n, w) :: r, ns, i + 1, nm, v, e, nd, h1, h2 => by
    subst e
    simp only [List.map_cons, List.getElem?_cons_succ] at h1 h2
    rw [List.map_cons, List.nodup_cons] at nd
    have hne : (nm == n) = false := by
      have : nm ∈ r.map (·.1) := List.mem_of_getElem? h1
      rw [beq_eq_false_iff_ne]
      rintro rfl
      exact nd.1 this
    rw [List.lookup_cons, hne]
    exact lookup_ix rfl nd.2 h1 h2
/-- o.f, an attribute -/
def c_fld (c i : Nat) (a : ECode) : ECode := fun ρ S => (a ρ S).bind fun d S1 => if clsOf d S1 = some c then match fldsOf d S1 with
  | some fs => match fs[i]? with
    | some x => .ok x S1
    | none => .stuck
  | none => .stuck else .stuck
theorem de_fld (F : FamH Xs G E) {c i : Nat} {nm : Str} {o : Expr} {pos : Pos} {a : ECode} (hc : Cls G.K (G.cls c)) (hn : NoAttr G.K (G.cls c) nm) (hi : (G.fns c)[i]? = some nm) (hnd : (G.fns c).Nodup)
    (hab : ∀ j, attributeBase o nm (Xs j).env (eval o (Xs j).env) = eval o (Xs j).env) (ho : DE Xs G E o a) : DE Xs G E (.Attribute o nm pos) (c_fld c i a) := by
  obtain ⟨t, pa, sa⟩ := ho
  refine ⟨tFld G.K t nm, fun j => by have z := pe_fld (pos := pos) (pa j) (hab j); rw [F.K j] at z; exact z, fun ι S H σ ρ Q R e q => ?_⟩
  refine sa.go R e q fun d S1 ι1 H1 v x1 R1 e1 r1 q1 => ?_
  by_cases h : clsOf d S1 = some c
  · rw [if_pos h] at q1
    obtain ⟨a, dx, nfs, fs, rfl, h2, h3, h4, h5⟩ := cls_at R1 r1 h
    rw [h5] at q1
    cases hx : fs[i]? with
    | none =>
      simp only [hx] at q1
      exact q1.elim
    | some y =>
      simp only [hx] at q1
      obtain ⟨w, hw, rw'⟩ := h4.get hx
      have hlt : i < fs.length := (List.getElem?_eq_some_iff.mp hx).1
      refine ⟨a, _, dx, nfs, w, rfl, h2, hc, hn, ?_, Post.here R1 q1 w rw'⟩
      refine lookup_ix h3 (hnd.sublist (List.take_sublist _ _)) (i := i) ?_ hw
      rw [List.getElem?_take_of_lt hlt]
      exact hi
  · rw [if_neg h] at q1
    exact q1.elim
end
end DL
set_option Elab.async false
set_option linter.all false
set_option maxRecDepth 100000
set_option maxHeartbeats 4000000
/-! DL5T: tuple * 1 -/
namespace DL
open PySem PySem.Spec PyProof.Rows L2
theorem tuple_mul1 (l : Addr) (items : Array Value) (n : Nat) (dd : Option Addr) (sl : Array (Option Value)) (u : Tok) :
    Meets (Builtin.«tuple.__mul__» ⟨[.ref l, .int 1 u], []⟩) (fun _ R s => s.heap.get? l = some { cls := .type "tuple", dict := dd, data := .seq items n, slots := sl } ∧
      R (.ok (.ret (Value.ref l))) s) :=
  .of_wp fun prog w A R s h => by
    obtain ⟨hp, g, d, tk, os⟩ := s
    obtain ⟨hl, h⟩ := h
    have f1 := AutoSeq1.idx_int
    wp_walk using wpAny_loadPart' hl
    repeat (first
      | (refine wpAny_ite_false (decide_eq_false (by simp)) ?_; wp_walk using wpAny_loadPart' hl)
      | (refine wpAny_ite_true (decide_eq_true (by simp)) ?_; wp_walk using wpAny_loadPart' hl))
    all_goals first | exact ⟨_, rfl, h⟩ | skip
def rRepT1 (K : PySem.W.Frag) : R2 := fun x y H Q => ∃ l xs, x = .ref l ∧ y = .int 1 ∧ SqT K H l xs ∧ xs ≠ [] ∧ Q (.ref l) H
theorem op_repT1 {X : Cx} : OpR X (binaryOp .Mult) (rRepT1 X.K) := by
  intro pins s σ H x y v u Q I rx ry h
  obtain ⟨l, xs, rfl, rfl, hT, hne, q⟩ := h
  cases rx
  obtain ⟨t, rfl⟩ := ry
  obtain ⟨its, r, ⟨⟨cls, dd, data, sl⟩, ho, hc, n, hd⟩, hs⟩ := I.tuple hT
  simp only at hc hd
  subst hc hd
  refine wpAny_binaryOp_repeat_ref (T := "tuple") (U := "int") (by decide) ⟨_, ho, rfl⟩ (fun s' => typeIs_int s' 1 t) noFill_tuple_mul F.fills_int_mul F.slot_int_rmul repeat_tuple F.slot_int_index.lookup
    (call_meets F.slot_int_rmul (typeIs_int s 1 t) F.entry_int_rmul (F.args_int_rmul_2 _ _) (int_rmul_tuple 1 t l its.toArray n dd sl)
      ⟨ho, rfl, ⟨_, ho, rfl⟩, call_meets F.slot_tuple_mul ⟨_, ho, rfl⟩ F.entry_tuple_mul (F.args_tuple_mul_2 _ _) (tuple_mul1 l its.toArray n dd sl t) ⟨ho, ?_⟩⟩)
  exact ⟨.ref l, H, I, rfl, q⟩
end DL
set_option Elab.async false
set_option linter.all false
set_option maxRecDepth 100000
set_option maxHeartbeats 4000000
/-! DL6: operators, subscripts, built-in functions on data -/
namespace DL
open PySem PySem.Spec PyProof.Rows L2
section
variable {G : Gx}
/-! ### unions of rules -/
theorem Rep.sqT {ι : Ix} {S : Sto} {H : Hp} {v : V} {ds : List D} (r : Rep G ι (Lv ι S) H v (.tup ds)) : ∃ a vs, v = .ref a ∧ SqT G.K H a vs ∧ Reps G ι (Lv ι S) H vs ds := by
  cases r with
  | tup h _ r => exact ⟨_, _, rfl, SqT.of h, r⟩
/-- a list that may be read -/
theorem items_at {ι : Ix} {S : Sto} {H : Hp} {v : V} {d : D} {ds : List D} (R : Rel G ι S H) (r : Rep G ι (Lv ι S) H v d) (h : itemsOf d S = some ds) :
    ∃ a vs, v = .ref a ∧ (SqL G.K H a vs ∨ SqT G.K H a vs) ∧ Reps G ι (Lv ι S) H vs ds := by
  cases r with
  | tup q _ r =>
    cases h
    exact ⟨_, _, rfl, .inr (SqT.of q), r⟩
  | wtp q r =>
    cases h
    exact ⟨_, _, rfl, .inr (.inr q), r⟩
  | lst q k r =>
    cases h
    exact ⟨_, _, rfl, .inl (SqL.of q), r⟩
  | scr q r =>
    cases h
    rename_i a vs
    have hs : SqL G.K H a vs := by
      rcases q with q | q
      · exact .inl q.1
      · exact .inr q
    exact ⟨a, vs, rfl, .inl hs, r⟩
  | ref q =>
    rename_i a n
    unfold itemsOf at h
    cases hs : S[n]? with
    | none =>
      simp only [hs] at h
      cases h
    | some o =>
      simp only [hs] at h
      cases o with
      | none => cases h
      | some cl =>
        cases cl with
        | lst es =>
          cases h
          obtain ⟨a', h1, vs, h2, h3⟩ := R.cell n _ hs
          rw [q] at h1
          cases h1
          exact ⟨a, vs, rfl, .inl (SqL.of h2), h3⟩
        | _ => cases h
  | _ => cases h
/-- a list that was made here -/
def lstOf : D → Sto → Option (List D)
  | .lst ds, _ => some ds
  | .ref n, S => match S[n]? with
    | some (some (.lst ds)) => some ds
    | _ => none
  | _, _ => none
theorem lst_at {ι : Ix} {S : Sto} {H : Hp} {v : V} {d : D} {ds : List D} (R : Rel G ι S H) (r : Rep G ι (Lv ι S) H v d) (h : lstOf d S = some ds) :
    ∃ a vs, v = .ref a ∧ H a = some (.lst vs) ∧ Reps G ι (Lv ι S) H vs ds := by
  cases r with
  | lst q k r =>
    cases h
    exact ⟨_, _, rfl, q, r⟩
  | ref q =>
    rename_i a n
    unfold lstOf at h
    cases hs : S[n]? with
    | none =>
      simp only [hs] at h
      cases h
    | some o =>
      simp only [hs] at h
      cases o with
      | none => cases h
      | some cl =>
        cases cl with
        | lst es =>
          cases h
          obtain ⟨a', h1, vs, h2, h3⟩ := R.cell n _ hs
          rw [q] at h1
          cases h1
          exact ⟨a, vs, rfl, h2, h3⟩
        | _ => cases h
  | _ => cases h
/-! ### + - * // % ** -/
instance {i j : Int} : Decidable (CMulW i j) := by unfold CMulW; infer_instance
instance {i j : Int} : Decidable (CDivW i j) := by unfold CDivW; infer_instance
instance {i j : Int} : Decidable (CPow i j) := by unfold CPow; infer_instance
def p_addL (b : Bool) (x y : D) (S : Sto) : Res D := match lstOf x S, lstOf y S with
  | some xs, some ys => p_lst b (xs ++ ys) S
  | _, _ => .stuck
def p_add (b : Bool) (x y : D) (S : Sto) : Res D := match x, y with
  | .int i, .int j => .ok (.int (i + j)) S
  | .str x, .str y => if x.length + y.length ≤ 1000000 then .ok (.str (x ++ y)) S else .stuck
  | .tup xs, .tup ys => p_tup (xs ++ ys) S
  | x, y => p_addL b x y S
theorem Reps.ne {ι : Ix} {S : Sto} {H : Hp} {vs : List V} {ds : List D} (r : Reps G ι (Lv ι S) H vs ds) (h : ds ≠ []) : vs ≠ [] := by
  rintro rfl
  cases r
  exact h rfl
def rAddU (K : PySem.W.Frag) : R2 := fun x y H Q => (∃ i j, x = .int i ∧ y = .int j ∧ Q (.int (i + j)) H) ∨ (∃ i j, x = .str i ∧ y = .str j ∧ i.length + j.length ≤ sizeLine ∧ Q (.str (i ++ j)) H) ∨ rCatA K x y H Q ∨ rCat x y H Q
theorem op_addU {X : Cx} : OpR X (binaryOp .Add) (rAddU X.K) := op_add.or (op_add_str.or (op_catA.or op_cat))
theorem snd_add (b : Bool) : SndR G (rAddU G.K) (p_add b) := fun E ι S H x y dx dy Q R rx ry q => by
  have lists : Post G E ι S H (PV G Q) (p_addL b dx dy S) → rAddU G.K x y H Q := fun q => by
    unfold p_addL at q
    cases h1 : lstOf dx S with
    | none => simp only [h1] at q; exact q.elim
    | some xs =>
      cases h2 : lstOf dy S with
      | none => simp only [h1, h2] at q; exact q.elim
      | some ys =>
        simp only [h1, h2] at q
        obtain ⟨a, vs, rfl, ha, ra⟩ := lst_at R rx h1
        obtain ⟨b, ws, rfl, hb, rb⟩ := lst_at R ry h2
        obtain ⟨hl, hq⟩ := p_lst_ok R (ra.app rb) q
        exact .inr (.inr (.inr ⟨a, b, vs, ws, rfl, rfl, ha, hb, by rw [List.length_append] at hl; exact hl, hq⟩))
  cases dx with
  | int i =>
    cases dy with
    | int j => exact .inl ⟨i, j, rx.int_of, ry.int_of, Post.here R q _ (.int _)⟩
    | _ => exact lists q
  | str i =>
    cases dy with
    | str j =>
      have q : Post G E ι S H (PV G Q) (if i.length + j.length ≤ 1000000 then .ok (.str (i ++ j)) S else .stuck) := q
      split at q
      · rename_i h
        exact .inr (.inl ⟨i, j, rx.str_of, ry.str_of, Nat.le_trans h (by rw [sizeLine_eq]; decide), Post.here R q _ (.str _)⟩)
      · exact q.elim
    | _ => exact lists q
  | tup xs =>
    cases dy with
    | tup ys =>
      have q : Post G E ι S H (PV G Q) (p_tup (xs ++ ys) S) := q
      obtain ⟨a, vs, rfl, ha, ra⟩ := rx.sqT
      obtain ⟨b, ws, rfl, hb, rb⟩ := ry.sqT
      obtain ⟨hl, hq⟩ := p_tup_ok R (ra.app rb) q
      have hok : Post G E ι S H (PV G Q) (.ok (.tup (xs ++ ys)) S) := by
        unfold p_tup at q
        split at q
        · exact q
        · exact q.elim
      refine .inr (.inr (.inl ⟨a, b, vs, ws, rfl, rfl, ha, hb, by rw [List.length_append] at hl; exact hl, fun e => ?_, fun _ e => ?_, fun _ _ => hq⟩))
      · subst e
        cases ra
        exact Post.here R hok _ ry
      · subst e
        cases rb
        rw [List.append_nil] at hok
        exact Post.here R hok _ rx
    | _ => exact lists q
  | _ => exact lists q
def p_sub : D → D → Sto → Res D
  | .int i, .int j, S => .ok (.int (i - j)) S
  | _, _, _ => .stuck
theorem snd_sub : SndR G (rI0 fun i j => .int (i - j)) p_sub := fun E ι S H x y dx dy Q R rx ry q => by
  cases dx with
  | int i =>
    cases dy with
    | int j => exact ⟨i, j, rx.int_of, ry.int_of, Post.here R q _ (.int _)⟩
    | _ => exact q.elim
  | _ => exact q.elim
def p_fdiv : D → D → Sto → Res D
  | .int i, .int j, S => if CDivW i j then .ok (.int (i / j)) S else .stuck
  | _, _, _ => .stuck
theorem snd_fdiv : SndR G (rI CDivW fun i j => .int (i / j)) p_fdiv := fun E ι S H x y dx dy Q R rx ry q => by
  cases dx with
  | int i =>
    cases dy with
    | int j =>
      have q : Post G E ι S H (PV G Q) (if CDivW i j then .ok (.int (i / j)) S else .stuck) := q
      split at q
      · rename_i h
        exact ⟨i, j, rx.int_of, ry.int_of, h, Post.here R q _ (.int _)⟩
      · exact q.elim
    | _ => exact q.elim
  | _ => exact q.elim
def p_mod : D → D → Sto → Res D
  | .int i, .int j, S => if 0 < j then .ok (.int (i % j)) S else .stuck
  | _, _, _ => .stuck
theorem snd_mod : SndR G (rI (fun _ j => 0 < j) fun i j => .int (i % j)) p_mod := fun E ι S H x y dx dy Q R rx ry q => by
  cases dx with
  | int i =>
    cases dy with
    | int j =>
      have q : Post G E ι S H (PV G Q) (if 0 < j then .ok (.int (i % j)) S else .stuck) := q
      split at q
      · rename_i h
        exact ⟨i, j, rx.int_of, ry.int_of, h, Post.here R q _ (.int _)⟩
      · exact q.elim
    | _ => exact q.elim
  | _ => exact q.elim
def p_pow : D → D → Sto → Res D
  | .int i, .int j, S => if CPow i j then .ok (.int (i ^ j.toNat)) S else .stuck
  | _, _, _ => .stuck
theorem snd_pow : SndR G (rI CPow fun i j => .int (i ^ j.toNat)) p_pow := fun E ι S H x y dx dy Q R rx ry q => by
  cases dx with
  | int i =>
    cases dy with
    | int j =>
      have q : Post G E ι S H (PV G Q) (if CPow i j then .ok (.int (i ^ j.toNat)) S else .stuck) := q
      split at q
      · rename_i h
        exact ⟨i, j, rx.int_of, ry.int_of, h, Post.here R q _ (.int _)⟩
      · exact q.elim
    | _ => exact q.elim
  | _ => exact q.elim
def p_mulL (b : Bool) (x : D) (k : Int) (S : Sto) : Res D := match lstOf x S with
  | some xs => if -1000 ≤ k ∧ k ≤ 1000 ∧ xs.length ≤ 1000 then p_lst b (List.replicate k.toNat xs).flatten S else .stuck
  | none => .stuck
def p_mul (b : Bool) (x y : D) (S : Sto) : Res D := match y with
  | .int k => match x with
    | .int i => if CMulW i k then .ok (.int (i * k)) S else .stuck
    | .tup xs => if xs ≠ [] ∧ 1 ≤ k ∧ k ≤ 1000 ∧ xs.length ≤ 1000 then .ok (.tup (List.replicate k.toNat xs).flatten) S else .stuck
    | x => p_mulL b x k S
  | _ => .stuck
def rMulU (K : PySem.W.Frag) : R2 := fun x y H Q => (rI CMulW fun i j => .int (i * j)) x y H Q ∨ rRepT K x y H Q ∨ rRepT1 K x y H Q ∨ rRep x y H Q
theorem op_mulU {X : Cx} : OpR X (binaryOp .Mult) (rMulU X.K) := op_mulW.or (op_repT.or (op_repT1.or op_rep))
theorem snd_mul (b : Bool) : SndR G (rMulU G.K) (p_mul b) := fun E ι S H x y dx dy Q R rx ry q => by
  cases dy with
  | int k =>
    have lists : Post G E ι S H (PV G Q) (p_mulL b dx k S) → rMulU G.K x y H Q := fun q => by
      unfold p_mulL at q
      cases h1 : lstOf dx S with
      | none =>
        rw [h1] at q
        exact q.elim
      | some xs =>
        rw [h1] at q
        have q : Post G E ι S H (PV G Q) (if -1000 ≤ k ∧ k ≤ 1000 ∧ xs.length ≤ 1000 then p_lst b (List.replicate k.toNat xs).flatten S else .stuck) := q
        obtain ⟨a, vs, rfl, ha, ra⟩ := lst_at R rx h1
        by_cases hf : -1000 ≤ k ∧ k ≤ 1000 ∧ xs.length ≤ 1000
        · rw [if_pos hf] at q
          obtain ⟨hl, hq⟩ := p_lst_ok R (ra.repl k.toNat) q
          refine .inr (.inr (.inr ⟨a, k, vs, rfl, ry.int_of, ha, by omega, by omega, ?_, hq⟩))
          rw [ra.length, sizeLine_eq]
          have h1 : k.toNat ≤ 1000 := by omega
          exact Nat.le_trans (Nat.mul_le_mul hf.2.2 h1) (by decide)
        · rw [if_neg hf] at q
          exact q.elim
    cases dx with
    | int i =>
      have q : Post G E ι S H (PV G Q) (if CMulW i k then .ok (.int (i * k)) S else .stuck) := q
      split at q
      · rename_i h
        exact .inl ⟨i, k, rx.int_of, ry.int_of, h, Post.here R q _ (.int _)⟩
      · exact q.elim
    | tup xs =>
      have q : Post G E ι S H (PV G Q) (if xs ≠ [] ∧ 1 ≤ k ∧ k ≤ 1000 ∧ xs.length ≤ 1000 then .ok (.tup (List.replicate k.toNat xs).flatten) S else .stuck) := q
      by_cases hf : xs ≠ [] ∧ 1 ≤ k ∧ k ≤ 1000 ∧ xs.length ≤ 1000
      · rw [if_pos hf] at q
        obtain ⟨a, vs, rfl, ha, ra⟩ := rx.sqT
        by_cases h1 : k = 1
        · subst h1
          refine .inr (.inr (.inl ⟨a, vs, rfl, ry.int_of, ha, ra.ne hf.1, ?_⟩))
          have e : (List.replicate (1 : Int).toNat xs).flatten = xs := by simp
          rw [e] at q
          exact Post.here R q _ rx
        · refine .inr (.inl ⟨a, k, vs, rfl, ry.int_of, ha, ra.ne hf.1, by omega, hf.2.2.1, by rw [ra.length]; exact hf.2.2.2, fun p hp => ?_⟩)
          obtain ⟨x', R', r'⟩ := new_tup R hp (ra.repl k.toNat)
          exact q _ _ x' R' _ r'
      · rw [if_neg hf] at q
        exact q.elim
    | _ => exact lists q
  | _ => exact q.elim
def p_neg : D → Sto → Res D
  | .int i, S => .ok (.int (-i)) S
  | _, _ => .stuck
theorem snd_neg : SndU G (rU fun i => .int (-i)) p_neg := fun E ι S H x dx Q R rx q => by
  cases dx with
  | int i => exact ⟨i, rx.int_of, Post.here R q _ (.int _)⟩
  | _ => exact q.elim
/-! ### comparisons -/
def p_cmp (c : Int → Int → Bool) : D → D → Sto → Res D
  | .int i, .int j, S => .ok (.bl (c i j)) S
  | _, _, _ => .stuck
theorem snd_cmp (c : Int → Int → Bool) : SndR G (rI0 fun i j => .bl (c i j)) (p_cmp c) := fun E ι S H x y dx dy Q R rx ry q => by
  cases dx with
  | int i =>
    cases dy with
    | int j => exact ⟨i, j, rx.int_of, ry.int_of, Post.here R q _ (.bl _)⟩
    | _ => exact q.elim
  | _ => exact q.elim
def p_lt := p_cmp fun i j => decide (i < j)
def p_le := p_cmp fun i j => decide (i ≤ j)
def p_gt := p_cmp fun i j => decide (j < i)
def p_ge := p_cmp fun i j => decide (j ≤ i)
-- data for == and repr: no dicts, no instances
mutual
def pyOf (S : Sto) : D → Option PyData
  | .non => some .none
  | .bl b => some (.bool b)
  | .int i => some (.int i)
  | .str x => some (.str x)
  | .tup ds => (pyOfL S ds).map .tuple
  | .lst ds => (pyOfL S ds).map .list
  | .scr ds => (pyOfL S ds).map .list
  | .wtp ds => (pyOfL S ds).map .tuple
  | .ref n => match S[n]? with
    | some (some (.lst ds)) => (flatL ds).map .list
    | _ => none
  | _ => none
def pyOfL (S : Sto) : List D → Option (List PyData)
  | [] => some []
  | d :: ds => (pyOf S d).bind fun p => (pyOfL S ds).map fun ps => p :: ps
/-- within a cell: no further cells -/
def flat : D → Option PyData
  | .non => some .none
  | .bl b => some (.bool b)
  | .int i => some (.int i)
  | .str x => some (.str x)
  | .tup ds => (flatL ds).map .tuple
  | .lst ds => (flatL ds).map .list
  | _ => none
def flatL : List D → Option (List PyData)
  | [] => some []
  | d :: ds => (flat d).bind fun p => (flatL ds).map fun ps => p :: ps
end
theorem pair_flat {ι : Ix} {S : Sto} {H : Hp} : ∀ n : Nat, (∀ (v : V) (d : D) (p : PyData), sizeOf d ≤ n → DL.flat d = some p → Rep G ι (Lv ι S) H v d → Dp G.K H v p) ∧
    (∀ (vs : List V) (ds : List D) (ps : List PyData), sizeOf ds ≤ n → flatL ds = some ps → Reps G ι (Lv ι S) H vs ds → DpAll G.K H vs ps)
  | 0 => by
    refine ⟨fun v d p h => ?_, fun vs ds ps h => ?_⟩
    · cases d <;> simp at h
    · cases ds <;> simp at h
  | n + 1 => by
    obtain ⟨i1, i2⟩ := pair_flat (ι := ι) (S := S) (H := H) n
    refine ⟨fun v d p h e r => ?_, fun vs ds ps h e r => ?_⟩
    · cases d with
      | non => cases r; cases e; exact .non
      | bl b => cases r; cases e; exact .bl b
      | int i => cases r; cases e; exact .int i
      | str x => cases r; cases e; exact .str x
      | tup ds =>
        simp only [DL.flat] at e
        obtain ⟨a, vs, rfl, hs, r⟩ := r.sqT
        cases e2 : flatL ds with
        | none => rw [e2] at e; cases e
        | some ps =>
          rw [e2] at e
          cases e
          exact .tup hs (i2 vs ds ps (by simp at h; omega) e2 r)
      | lst ds =>
        simp only [DL.flat] at e
        cases r with
        | lst q k r =>
          cases e2 : flatL ds with
          | none => rw [e2] at e; cases e
          | some ps =>
            rw [e2] at e
            cases e
            exact .lst (SqL.of q) (i2 _ ds ps (by simp at h; omega) e2 r)
      | scr ds => cases e
      | wtp ds => cases e
      | dK _ => cases e
      | dT _ => cases e
      | obj _ _ => cases e
      | ref _ => cases e
      | con _ => cases e
      | ty _ => cases e
      | err _ _ => cases e
    · cases ds with
      | nil =>
        cases r
        cases e
        exact .nil
      | cons d ds =>
        cases r with
        | cons q r =>
          simp only [flatL] at e
          cases e1 : DL.flat d with
          | none => rw [e1] at e; cases e
          | some p =>
            rw [e1] at e
            cases e2 : flatL ds with
            | none => rw [e2] at e; cases e
            | some ps =>
              rw [e2] at e
              cases e
              exact .cons (i1 _ d p (by simp at h; omega) e1 q) (i2 _ ds ps (by simp at h; omega) e2 r)
theorem pair_py {ι : Ix} {S : Sto} {H : Hp} (R : Rel G ι S H) : ∀ n : Nat, (∀ (v : V) (d : D) (p : PyData), sizeOf d ≤ n → pyOf S d = some p → Rep G ι (Lv ι S) H v d → Dp G.K H v p) ∧
    (∀ (vs : List V) (ds : List D) (ps : List PyData), sizeOf ds ≤ n → pyOfL S ds = some ps → Reps G ι (Lv ι S) H vs ds → DpAll G.K H vs ps)
  | 0 => by
    refine ⟨fun v d p h => ?_, fun vs ds ps h => ?_⟩
    · cases d <;> simp at h
    · cases ds <;> simp at h
  | n + 1 => by
    obtain ⟨i1, i2⟩ := pair_py R n
    refine ⟨fun v d p h e r => ?_, fun vs ds ps h e r => ?_⟩
    · cases d with
      | non => cases r; cases e; exact .non
      | bl b => cases r; cases e; exact .bl b
      | int i => cases r; cases e; exact .int i
      | str x => cases r; cases e; exact .str x
      | tup ds =>
        simp only [pyOf] at e
        obtain ⟨a, vs, rfl, hs, r⟩ := r.sqT
        cases e2 : pyOfL S ds with
        | none => rw [e2] at e; cases e
        | some ps =>
          rw [e2] at e
          cases e
          exact .tup hs (i2 vs ds ps (by simp at h; omega) e2 r)
      | lst ds =>
        simp only [pyOf] at e
        cases r with
        | lst q k r =>
          cases e2 : pyOfL S ds with
          | none => rw [e2] at e; cases e
          | some ps =>
            rw [e2] at e
            cases e
            exact .lst (SqL.of q) (i2 _ ds ps (by simp at h; omega) e2 r)
      | scr ds =>
        simp only [pyOf] at e
        cases r with
        | scr q r =>
          cases e2 : pyOfL S ds with
          | none => rw [e2] at e; cases e
          | some ps =>
            rw [e2] at e
            cases e
            refine .lst ?_ (i2 _ ds ps (by simp at h; omega) e2 r)
            rcases q with q | q
            · exact .inl q.1
            · exact .inr q
      | wtp ds =>
        simp only [pyOf] at e
        cases r with
        | wtp q r =>
          cases e2 : pyOfL S ds with
          | none => rw [e2] at e; cases e
          | some ps =>
            rw [e2] at e
            cases e
            exact .tup (.inr q) (i2 _ ds ps (by simp at h; omega) e2 r)
      | dK _ => cases e
      | dT _ => cases e
      | obj _ _ => cases e
      | con _ => cases e
      | ty _ => cases e
      | err _ _ => cases e
      | ref m =>
        simp only [pyOf] at e
        cases hs : S[m]? with
        | none => rw [hs] at e; cases e
        | some o =>
          rw [hs] at e
          cases o with
          | none => cases e
          | some cl =>
            cases cl with
            | lst es =>
              have e : (flatL es).map PyData.list = some p := e
              cases e2 : flatL es with
              | none => rw [e2] at e; cases e
              | some ps =>
                rw [e2] at e
                cases e
                obtain ⟨a', h1, vs, h2, h3⟩ := R.cell m _ hs
                cases r with
                | ref q =>
                  rw [q] at h1
                  cases h1
                  exact .lst (SqL.of h2) ((pair_flat (sizeOf es)).2 _ es ps (Nat.le_refl _) e2 h3)
            | _ => cases e
    · cases ds with
      | nil =>
        cases r
        cases e
        exact .nil
      | cons d ds =>
        cases r with
        | cons q r =>
          simp only [pyOfL] at e
          cases e1 : pyOf S d with
          | none => rw [e1] at e; cases e
          | some p =>
            rw [e1] at e
            cases e2 : pyOfL S ds with
            | none => rw [e2] at e; cases e
            | some ps =>
              rw [e2] at e
              cases e
              exact .cons (i1 _ d p (by simp at h; omega) e1 q) (i2 _ ds ps (by simp at h; omega) e2 r)
theorem Rep.py {ι : Ix} {S : Sto} {H : Hp} (R : Rel G ι S H) {v : V} {d : D} {p : PyData} (e : pyOf S d = some p) (r : Rep G ι (Lv ι S) H v d) : Dp G.K H v p := (pair_py R (sizeOf d)).1 v d p (Nat.le_refl _) e r
def p_eq (neg : Bool) : D → D → Sto → Res D := fun x y S => match pyOf S x, pyOf S y with
  | some d, some e => if SeqAt.shaped d = true ∧ SeqAt.shaped e = true then .ok (.bl (if neg = true then !PyData.eqv d e else PyData.eqv d e)) S else .stuck
  | _, _ => .stuck
theorem snd_eq : SndR G (rEqD G.K) (p_eq false) := fun E ι S H x y dx dy Q R rx ry q => by
  unfold p_eq at q
  cases h1 : pyOf S dx with
  | none => simp only [h1] at q; exact q.elim
  | some d =>
    cases h2 : pyOf S dy with
    | none => simp only [h1, h2] at q; exact q.elim
    | some e =>
      simp only [h1, h2] at q
      by_cases h : SeqAt.shaped d = true ∧ SeqAt.shaped e = true
      · rw [if_pos h] at q
        exact ⟨d, e, rx.py R h1, ry.py R h2, h.1, h.2, Post.here R q _ (.bl _)⟩
      · rw [if_neg h] at q
        exact q.elim
theorem snd_ne : SndR G (rNeD G.K) (p_eq true) := fun E ι S H x y dx dy Q R rx ry q => by
  unfold p_eq at q
  cases h1 : pyOf S dx with
  | none => simp only [h1] at q; exact q.elim
  | some d =>
    cases h2 : pyOf S dy with
    | none => simp only [h1, h2] at q; exact q.elim
    | some e =>
      simp only [h1, h2] at q
      by_cases h : SeqAt.shaped d = true ∧ SeqAt.shaped e = true
      · rw [if_pos h] at q
        exact ⟨d, e, rx.py R h1, ry.py R h2, h.1, h.2, Post.here R q _ (.bl _)⟩
      · rw [if_neg h] at q
        exact q.elim
def isNon : D → Bool
  | .non => true
  | _ => false
def p_isN (neg : Bool) : D → D → Sto → Res D
  | x, .non, S => .ok (.bl (if neg = true then !isNon x else isNon x)) S
  | _, _, _ => .stuck
theorem Rep.isNon {ι : Ix} {L : Addr → Prop} {H : Hp} {v : V} {d : D} (r : Rep G ι L H v d) : decide (v = .non) = isNon d := by
  cases r <;> first | rfl | exact decide_eq_false (fun h => nomatch h)
theorem snd_isN : SndR G (fun x y H Q => y = .non ∧ Q (.bl (decide (x = .non))) H) (p_isN false) := fun E ι S H x y dx dy Q R rx ry q => by
  cases dy with
  | non => exact ⟨ry.non_of, by rw [rx.isNon]; exact Post.here R q _ (.bl _)⟩
  | _ => exact q.elim
/-! ### in, of flat items -/
def flatD : D → Bool
  | .non => true
  | .bl _ => true
  | .int _ => true
  | .str _ => true
  | _ => false
def eqD : D → D → Bool
  | .non, .non => true
  | .bl a, .bl b => a == b
  | .bl a, .int b => (if a then 1 else 0) == b
  | .int a, .bl b => a == (if b then 1 else 0)
  | .int a, .int b => a == b
  | .str a, .str b => a == b
  | _, _ => false
theorem Rep.flatV {ι : Ix} {L : Addr → Prop} {H : Hp} {v : V} {d : D} (r : Rep G ι L H v d) (h : flatD d = true) : L2.flatV v = true := by
  cases r <;> first | rfl | cases h
theorem Rep.eqV {ι : Ix} {L : Addr → Prop} {H : Hp} {v w : V} {d e : D} (r : Rep G ι L H v d) (s : Rep G ι L H w e) (h : flatD d = true) (h' : flatD e = true) : L2.eqV v w = eqD d e := by
  cases r <;> cases h <;> cases s <;> first | rfl | cases h'
theorem Reps.flatV {ι : Ix} {L : Addr → Prop} {H : Hp} : ∀ {vs : List V} {ds : List D}, Reps G ι L H vs ds → ds.all flatD = true → vs.all L2.flatV = true
  | _, _, .nil, _ => rfl
  | _, _, .cons q r, h => by
    simp only [List.all_cons, Bool.and_eq_true] at h ⊢
    exact ⟨q.flatV h.1, r.flatV h.2⟩
theorem Reps.inV {ι : Ix} {L : Addr → Prop} {H : Hp} {x : V} {d : D} (r : Rep G ι L H x d) (h : flatD d = true) : ∀ {vs : List V} {ds : List D}, Reps G ι L H vs ds → ds.all flatD = true → L2.inV x vs = ds.any fun y => eqD y d
  | _, _, .nil, _ => rfl
  | _, _, .cons q rs, hh => by
    simp only [List.all_cons, Bool.and_eq_true] at hh
    have ih := Reps.inV r h rs hh.2
    unfold L2.inV at ih ⊢
    rw [List.any_cons, List.any_cons, ih, q.eqV r hh.1 h]
def p_in (neg : Bool) : D → D → Sto → Res D := fun x y S => match itemsOf y S with
  | some ds => if flatD x = true ∧ ds.all flatD = true then .ok (.bl (if neg = true then !ds.any (fun y => eqD y x) else ds.any fun y => eqD y x)) S else .stuck
  | none => .stuck
theorem snd_in (neg : Bool) : SndR G (rIn G.K neg) (p_in neg) := fun E ι S H x y dx dy Q R rx ry q => by
  unfold p_in at q
  cases h1 : itemsOf dy S with
  | none => simp only [h1] at q; exact q.elim
  | some ds =>
    simp only [h1] at q
    by_cases h : flatD dx = true ∧ ds.all flatD = true
    · rw [if_pos h] at q
      obtain ⟨a, vs, rfl, ha, ra⟩ := items_at R ry h1
      refine ⟨a, vs, rfl, ha, rx.flatV h.1, ra.flatV h.2, ?_⟩
      rw [Reps.inV rx h.1 ra h.2]
      exact Post.here R q _ (.bl _)
    · rw [if_neg h] at q
      exact q.elim
end
end DL
set_option Elab.async false
set_option linter.all false
set_option maxRecDepth 100000
set_option maxHeartbeats 4000000
/-! DLV: t[::-1] of a tuple -/
namespace DL
open PySem PySem.Spec PyProof.Rows L2
section
variable {prog : Program} {w : World} {A : Around} {E : Value → Shared → Prop} {s : Shared}
theorem sliceApplied_rv {sl : Addr} {vl vu vs : Value} {n : Nat} {Q : Int × Int × Nat → Shared → Prop} (hs : s.heap.IsSliceOf sl vl vu vs) (pl : IsPart vl none) (pu : IsPart vu none) (ps : IsPart vs (some (-1)))
    (h : Q ((n : Int) - 1, -1, n) s) : wpAny (model prog w) A (Builtin.Slice.sliceApplied (.ref sl) (pure (n : Int))) Q E s := by
  obtain ⟨os, hos, hcs, hds⟩ := id hs
  unfold Builtin.Slice.sliceApplied Builtin.Slice.sliceFields
  refine wpAny_bind (wpAny_bind (wpAny_field hos hds (x := vl) rfl (wpAny_bind (wpAny_field hos hds (x := vu) rfl (wpAny_bind (wpAny_field hos hds (x := vs) rfl (wpAny_pure ?_)))))))
  refine wpAny_bind (HT.slicePart_ ps ?_)
  show wpAny _ _ (if ((-1 : Int) == 0) = true then _ else _) _ _ s
  rw [if_neg (by decide)]
  refine wpAny_bind (HT.slicePart_ pl (wpAny_bind (HT.slicePart_ pu (wpAny_bind (wpAny_pure ?_)))))
  show wpAny _ _ (pure ((n : Int) - 1, (-1 : Int), Builtin.Slice.slicePlaces ((n : Int) - 1) (-1) (-1))) _ _ s
  have e : Builtin.Slice.slicePlaces ((n : Int) - 1) (-1) (-1) = n := by
    unfold Builtin.Slice.slicePlaces
    have h1 : ¬ ((-1 : Int) > 0) := by decide
    simp only [h1, if_false]
    by_cases hn : (n : Int) - 1 > -1
    · rw [if_pos hn, show (-(-1 : Int)) = 1 from rfl, Int.ediv_one]
      omega
    · rw [if_neg hn]
      omega
  rw [e]
  exact wpAny_pure h
theorem pick_rv (xs : Array Value) : ((List.range xs.size).filterMap fun (m : Nat) => xs[(((xs.size : Int) - 1) + (m : Int) * (-1)).toNat]?).toArray = xs.toList.reverse.toArray := by
  congr 1
  have fc : ∀ {f g : Nat → Option Value} (l : List Nat), (∀ x ∈ l, f x = g x) → l.filterMap f = l.filterMap g := by
    intro f g l
    induction l with
    | nil => intro _; rfl
    | cons x l ih =>
      intro h
      rw [List.filterMap_cons, List.filterMap_cons, h x (List.mem_cons_self ..), ih fun y hy => h y (List.mem_cons_of_mem _ hy)]
  have e : (List.range xs.size).filterMap (fun (m : Nat) => xs[(((xs.size : Int) - 1) + (m : Int) * (-1)).toNat]?) = (List.range xs.size).filterMap fun m => xs.toList.reverse[m]? := by
    refine fc _ fun m hm => ?_
    have hm := List.mem_range.mp hm
    rw [List.getElem?_reverse (by rw [Array.length_toList]; exact hm), Array.length_toList, Array.getElem?_toList]
    congr 1
    omega
  rw [e]
  have key : ∀ l : List Value, (List.range l.length).filterMap (fun m => l[m]?) = l := by
    intro l
    induction l with
    | nil => rfl
    | cons x l ih =>
      rw [List.length_cons, List.range_succ_eq_map, List.filterMap_cons]
      show x :: _ = _
      rw [List.filterMap_map]
      congr 1
  have := key xs.toList.reverse
  rw [List.length_reverse, Array.length_toList] at this
  exact this
theorem getItem_tuple_rv {t sl : Addr} {items : Array Value} {vl vu vs : Value} {Q : Value → Shared → Prop} (ht : IsTup s.heap t items) (hs : s.heap.IsSliceOf sl vl vu vs) (pl : IsPart vl none) (pu : IsPart vu none) (ps : IsPart vs (some (-1)))
    (h : Q (.ref s.heap.objs.size) { s with heap := s.heap.push { cls := .type "tuple", data := .seq items.toList.reverse.toArray } }) (hsz : items.size ≤ sizeLine) : wpAny (model prog w) A (getItem (.ref t) (.ref sl)) Q E s := by
  have htake : sizeOk (.seq items.toList.reverse.toArray) := by
    show items.toList.reverse.toArray.size ≤ sizeLine
    rw [List.size_toArray, List.length_reverse, Array.length_toList]
    exact hsz
  obtain ⟨os, hos, hcs, hds⟩ := id hs
  have hTs : s.TypeIs (.ref sl) "slice" := ⟨os, hos, hcs⟩
  unfold getItem
  try with_reducible refine wpAny_holding ?_
  first | refine wpAny_bind (wpAny_pure ?_) | skip
  refine wpAny_bind (wpAny_sequenceKey ht.typeIs (by decide) ?_)
  refine wpAny_bind (wpAny_callSpecial?_slot (name := Str.ofString "__getitem__") ht.typeIs PyProof.Rows.slot_tuple_getitem
    (wpAny_call_entry PyProof.Rows.slot_tuple_getitem ht.typeIs entry_tuple_getitem ?_ (args_tuple_getitem _ _)))
  show wpAny _ _ (Builtin.Tuple.tupleItemsOf (.ref t) >>= _) _ _ s
  refine wpAny_bind (tupleItemsOf_ ht ?_)
  refine wpAny_bind (wpAny_typeOf hTs ?_)
  rw [if_pos (by decide)]
  refine wpAny_bind (sliceApplied_rv hs pl pu ps ?_)
  have hno : ¬ ((((items.size : Int) - 1) == 0 && (-1 : Int) == 1 && items.size == items.size) = true) := by
    intro q
    rw [Bool.and_eq_true, Bool.and_eq_true] at q
    exact absurd q.1.2 (by decide)
  show wpAny _ _ (if (((items.size : Int) - 1) == 0 && (-1 : Int) == 1 && items.size == items.size) = true then _ else _) _ _ s
  rw [if_neg hno, pick_rv]
  first
    | exact wpAny_bind (m := Builtin.Tuple.tupleExact _) (wpAny_newObj_type (wpAny_pure ⟨_, rfl, wpAny_pure h⟩) htake)
    | exact wpAny_bind (m := Builtin.Tuple.tupleExact _) (wpAny_newObj_type (wpAny_bind (wpAny_pure (wpAny_pure ⟨_, rfl, wpAny_pure h⟩))) htake)
    | exact wpAny_bind (wpAny_bind (m := Builtin.Tuple.tupleExact _) (wpAny_newObj_type (wpAny_pure (wpAny_pure ⟨_, rfl, wpAny_pure h⟩)) htake))
    | exact wpAny_bind (wpAny_bind (m := Builtin.Tuple.tupleExact _) (wpAny_newObj_type (wpAny_pure ⟨_, rfl, wpAny_pure h⟩) htake))
end
section
variable {X : Cx}
def tRevU (K : PySem.W.Frag) (te : TE) : TE := fun σ H Q => te σ H fun x H1 => (∃ a xs, x = .ref a ∧ SqL K H1 a xs ∧ ∀ p, H1 p = none → Q (.ref p) (upd H1 p (.lst xs.reverse))) ∨ (∃ a xs, x = .ref a ∧ SqT K H1 a xs ∧ ∀ p, H1 p = none → Q (.ref p) (upd H1 p (.tup xs.reverse)))
theorem pe_revU {e : Expr} {te : TE} {k : Nat} {p1 p2 p3 pos : Pos} (he : PE X e te) : PE X (.Subscript e (.Slice none none (some (.UnaryOp .USub (.Constant (.int 1) k p1) p2)) p3) pos) (tRevU X.K te) := by
  refine ⟨fun pins s σ H Q I h => ?_⟩
  refine Subscript_ (thn (he.run pins s σ H _ I h) fun v s1 ⟨x, H1, I1, r1, q1⟩ => ?_)
  have hst : PO X (some (.UnaryOp .USub (.Constant (.int 1) k p1) p2)) (tPart (tUn (rU fun i => .int (-i)) (tC (.int 1)))) := po_some (pe_un un_neg pe_int)
  refine wpAny_Slice (thn (po_none.run pins s1 σ H1 (fun o H2 => o = none ∧ H2 = H1) I1 ⟨rfl, rfl⟩) fun vl s2 ⟨l, H2, I2, pl, el, e2⟩ => ?_)
  subst el e2
  refine thn (po_none.run pins s2 σ H2 (fun o H3 => o = none ∧ H3 = H2) I2 ⟨rfl, rfl⟩) fun vu s3 ⟨u, H3, I3, pu, eu, e3⟩ => ?_
  subst eu e3
  refine thn (hst.run pins s3 σ H3 (fun o H4 => o = some (-1) ∧ H4 = H3) I3 ⟨1, rfl, -1, rfl, rfl, rfl⟩) fun vs s4 ⟨o, H4, I4, ps, eo, e4⟩ => ?_
  subst eo e4
  have I5 : Inv X pins σ H4 { s4 with heap := s4.heap.push { cls := .type "slice", data := .fields #[vl, vu, vs] } } := I4.kept (t' := s4.toks) fun b ob q => Heap.get?_push_of_some _ q
  rcases q1 with ⟨a, xs, ex, hx, q⟩ | ⟨a, xs, ex, hx, q⟩
  · subst ex
    cases r1
    obtain ⟨its, r, ht, hz⟩ := I5.list hx
    have hlen := r.length
    show wpAny (model X.prog X.w) X.A (subscriptTail e (.Slice none none (some (.UnaryOp .USub (.Constant (.int 1) k p1) p2)) p3) (.ref a) (.ref s4.heap.objs.size)) (EP X pins σ Q) X.xe { s4 with heap := s4.heap.push { cls := .type "slice", data := .fields #[vl, vu, vs] } }
    refine tail_any (ops := [.ref a, .ref s4.heap.objs.size]) ht.isList.typeIs (PySem.slot_list_getitem.lookup) ?_ (by with_unfolding_all rfl)
    refine wpAny_getItem_list_slice ht.isList (Heap.IsSliceOf.new _ vl vu vs) pl pu ps (by decide) ?_ (by rw [List.size_toArray]; omega)
    rw [PySem.W.krv_pick]
    refine ⟨.ref _, _, I5.laid (t' := s4.toks) (o := .lst xs.reverse) (fun b ob q => Heap.get?_push_of_some _ q) (Nat.le_refl _) ?_, rfl, q _ (I5.hok.fresh (Nat.le_refl _))⟩
    exact ⟨by rw [List.length_reverse]; exact hz, _, 0, r.reverse, Heap.get?_push_size _ rfl⟩
  · subst ex
    cases r1
    obtain ⟨its, r, ht, hz⟩ := I5.tuple hx
    have hlen := r.length
    show wpAny (model X.prog X.w) X.A (subscriptTail e (.Slice none none (some (.UnaryOp .USub (.Constant (.int 1) k p1) p2)) p3) (.ref a) (.ref s4.heap.objs.size)) (EP X pins σ Q) X.xe { s4 with heap := s4.heap.push { cls := .type "slice", data := .fields #[vl, vu, vs] } }
    refine tail_any (ops := [.ref a, .ref s4.heap.objs.size]) ht.typeIs (PyProof.Rows.slot_tuple_getitem.lookup) ?_ (by with_unfolding_all rfl)
    refine getItem_tuple_rv ht (Heap.IsSliceOf.new _ vl vu vs) pl pu ps ?_ (by rw [List.size_toArray]; omega)
    refine ⟨.ref _, _, I5.laid (t' := s4.toks) (o := .tup xs.reverse) (fun b ob q => Heap.get?_push_of_some _ q) (Nat.le_refl _) ?_, rfl, q _ (I5.hok.fresh (Nat.le_refl _))⟩
    refine ⟨by rw [List.length_reverse]; exact hz, _, r.reverse, ?_⟩
    exact IsTup.new _ _
end
end DL
set_option Elab.async false
set_option linter.all false
set_option maxRecDepth 100000
set_option maxHeartbeats 4000000
/-! DL7: subscripts, slices, built-in functions, methods of lists, what is walked -/
namespace DL
open PySem PySem.Spec PyProof.Rows L2
section
variable {I : Type} {Xs : I → Cx} {G : Gx} {E : WK} {kk : Nat}
/-! ### dicts -/
def keyOf : D → Option Key
  | .int i => some (.inl i)
  | .str x => some (.inr x)
  | _ => none
def keysOf : D → Option (List Key)
  | .tup ds => ds.mapM keyOf
  | _ => none
section
variable {κ : Type} [DecidableEq κ]
def valD (kvs : List (κ × D)) (k : κ) : Option D := (kvs.find? fun kv => decide (kv.1 = k)).map (·.2)
def putD (kvs : List (κ × D)) (k : κ) (v : D) : List (κ × D) :=
  if (kvs.any fun kv => decide (kv.1 = k)) = true then kvs.map (fun kv => if kv.1 = k then (kv.1, v) else kv) else kvs ++ [(k, v)]
theorem valD_rep {ι : Ix} {L : Addr → Prop} {H : Hp} : ∀ {kvs : List (κ × V)} {kds : List (κ × D)} (k : κ), kvs.map (·.1) = kds.map (·.1) → Reps G ι L H (kvs.map (·.2)) (kds.map (·.2)) →
    (valD kds k = none → valV kvs k = none) ∧ ∀ d, valD kds k = some d → ∃ v, valV kvs k = some v ∧ Rep G ι L H v d
  | [], [], k, _, _ => ⟨fun _ => rfl, fun d h => by cases h⟩
  | [], _ :: _, _, e, _ => by cases e
  | _ :: _, [], _, e, _ => by cases e
  | (k1, v) :: kvs, (k2, d) :: kds, k, e, r => by
    simp only [List.map_cons, List.cons.injEq] at e
    obtain ⟨e1, e2⟩ := e
    subst e1
    cases r with
    | cons q r =>
      have ih := valD_rep k e2 r
      by_cases h : k1 = k
      · subst h
        unfold valD
        simp only [List.find?_cons, decide_true, Option.map_some]
        exact ⟨fun z => (nomatch z), fun d' z => ⟨v, valV_pos rfl, by cases z; exact q⟩⟩
      · have e3 : valD ((k1, d) :: kds) k = valD kds k := by
          unfold valD
          simp [List.find?_cons, h]
        have e4 : valV ((k1, v) :: kvs) k = valV kvs k := valV_neg h
        rw [e3, e4]
        exact ih
theorem any_fst : ∀ {kvs : List (κ × V)} {kds : List (κ × D)} (k : κ), kvs.map (·.1) = kds.map (·.1) → (kvs.any fun kv => decide (kv.1 = k)) = (kds.any fun kv => decide (kv.1 = k))
  | [], [], k, _ => rfl
  | [], _ :: _, _, e => by cases e
  | _ :: _, [], _, e => by cases e
  | (k1, v) :: kvs, (k2, d) :: kds, k, e => by
    simp only [List.map_cons, List.cons.injEq] at e
    obtain ⟨e1, e2⟩ := e
    subst e1
    simp only [List.any_cons]
    rw [any_fst k e2]
theorem putD_rep {ι : Ix} {L : Addr → Prop} {H : Hp} {kvs : List (κ × V)} {kds : List (κ × D)} (k : κ) {v : V} {d : D} (e : kvs.map (·.1) = kds.map (·.1)) (r : Reps G ι L H (kvs.map (·.2)) (kds.map (·.2))) (q : Rep G ι L H v d) :
    (putK kvs k v).map (·.1) = (putD kds k d).map (·.1) ∧ Reps G ι L H ((putK kvs k v).map (·.2)) ((putD kds k d).map (·.2)) := by
  unfold putK putD
  rw [any_fst k e]
  split
  · have go : ∀ {kvs : List (κ × V)} {kds : List (κ × D)}, kvs.map (·.1) = kds.map (·.1) → Reps G ι L H (kvs.map (·.2)) (kds.map (·.2)) →
        (kvs.map (fun kv => if kv.1 = k then (kv.1, v) else kv)).map (·.1) = (kds.map (fun kv => if kv.1 = k then (kv.1, d) else kv)).map (·.1) ∧
        Reps G ι L H ((kvs.map (fun kv => if kv.1 = k then (kv.1, v) else kv)).map (·.2)) ((kds.map (fun kv => if kv.1 = k then (kv.1, d) else kv)).map (·.2)) := by
      intro kvs
      induction kvs with
      | nil =>
        intro kds e r
        cases kds with
        | nil => exact ⟨rfl, .nil⟩
        | cons _ _ => cases e
      | cons p kvs ih =>
        intro kds e r
        cases kds with
        | nil => cases e
        | cons p2 kds =>
          obtain ⟨k1, v1⟩ := p
          obtain ⟨k2, d2⟩ := p2
          simp only [List.map_cons, List.cons.injEq] at e
          obtain ⟨e1, e2⟩ := e
          subst e1
          cases r with
          | cons q0 r =>
            obtain ⟨a1, a2⟩ := ih e2 r
            by_cases h : k1 = k
            · simp only [List.map_cons, if_pos h]
              exact ⟨by rw [a1], .cons q a2⟩
            · simp only [List.map_cons, if_neg h]
              exact ⟨by rw [a1], .cons q0 a2⟩
    exact go e r
  · rw [List.map_append, List.map_append, List.map_append, List.map_append, e]
    exact ⟨rfl, r.app (.cons q .nil)⟩
theorem len_fst {kvs : List (κ × V)} {kds : List (κ × D)} (e : kvs.map (·.1) = kds.map (·.1)) : kvs.length = kds.length := by
  have := congrArg List.length e
  simpa using this
end
theorem keyOf_rep {ι : Ix} {L : Addr → Prop} {H : Hp} {v : V} {d : D} {k : Key} (r : Rep G ι L H v d) (h : keyOf d = some k) : v = kV k := by
  cases r <;> cases h <;> rfl
theorem keysOf_rep {ι : Ix} {L : Addr → Prop} {H : Hp} : ∀ {vs : List V} {ds : List D} {ks : List Key}, Reps G ι L H vs ds → ds.mapM keyOf = some ks → vs = ks.map kV
  | _, _, ks, .nil, h => by
    simp at h
    subst h
    rfl
  | _, d :: ds, ks, .cons q r, h => by
    rw [List.mapM_cons] at h
    cases e1 : keyOf d with
    | none => rw [e1] at h; cases h
    | some k =>
      rw [e1] at h
      cases e2 : ds.mapM keyOf with
      | none => rw [e2] at h; cases h
      | some ks' =>
        rw [e2] at h
        cases h
        rw [List.map_cons, keyOf_rep q e1, keysOf_rep r e2]
def dKOf : D → Sto → Option (List (Key × D))
  | .dK kvs, _ => some kvs
  | .ref n, S => match S[n]? with
    | some (some (.dK kvs)) => some kvs
    | _ => none
  | _, _ => none
def dTOf : D → Sto → Option (List (List Key × D))
  | .dT kvs, _ => some kvs
  | .ref n, S => match S[n]? with
    | some (some (.dT kvs)) => some kvs
    | _ => none
  | _, _ => none
theorem dK_at {ι : Ix} {S : Sto} {H : Hp} {v : V} {d : D} {kds : List (Key × D)} (R : Rel G ι S H) (r : Rep G ι (Lv ι S) H v d) (h : dKOf d S = some kds) :
    ∃ a kvs, v = .ref a ∧ H a = some (.dK kvs) ∧ kvs.map (·.1) = kds.map (·.1) ∧ Reps G ι (Lv ι S) H (kvs.map (·.2)) (kds.map (·.2)) := by
  cases r with
  | dK q k e r =>
    cases h
    exact ⟨_, _, rfl, q, e, r⟩
  | ref q =>
    rename_i a n
    unfold dKOf at h
    cases hs : S[n]? with
    | none =>
      simp only [hs] at h
      cases h
    | some o =>
      simp only [hs] at h
      cases o with
      | none => cases h
      | some cl =>
        cases cl with
        | dK es =>
          cases h
          obtain ⟨a', h1, vs, h2, h3⟩ := R.cell n _ hs
          rw [q] at h1
          cases h1
          exact ⟨a, vs, rfl, h2, h3⟩
        | _ => cases h
  | _ => cases h
theorem dT_at {ι : Ix} {S : Sto} {H : Hp} {v : V} {d : D} {kds : List (List Key × D)} (R : Rel G ι S H) (r : Rep G ι (Lv ι S) H v d) (h : dTOf d S = some kds) :
    ∃ a kvs, v = .ref a ∧ H a = some (.dT kvs) ∧ kvs.map (·.1) = kds.map (·.1) ∧ Reps G ι (Lv ι S) H (kvs.map (·.2)) (kds.map (·.2)) := by
  cases r with
  | dT q k e r =>
    cases h
    exact ⟨_, _, rfl, q, e, r⟩
  | ref q =>
    rename_i a n
    unfold dTOf at h
    cases hs : S[n]? with
    | none =>
      simp only [hs] at h
      cases h
    | some o =>
      simp only [hs] at h
      cases o with
      | none => cases h
      | some cl =>
        cases cl with
        | dT es =>
          cases h
          obtain ⟨a', h1, vs, h2, h3⟩ := R.cell n _ hs
          rw [q] at h1
          cases h1
          exact ⟨a, vs, rfl, h2, h3⟩
        | _ => cases h
  | _ => cases h
/-- what a dict holds at a key: none where it is no dict or no key; some none where the key is not there -/
def dGet (x y : D) (S : Sto) : Option (Option D) := match dKOf x S with
  | some kds => (keyOf y).map (valD kds)
  | none => match dTOf x S with
    | some kds => (keysOf y).map (valD kds)
    | none => none
theorem dGet_at {ι : Ix} {S : Sto} {H : Hp} {v w : V} {d e : D} {o : Option D} (R : Rel G ι S H) (r : Rep G ι (Lv ι S) H v d) (s : Rep G ι (Lv ι S) H w e) (h : dGet d e S = some o) :
    ∃ a u, v = .ref a ∧ DGet H a w u ∧ (o = none → u = none) ∧ ∀ d', o = some d' → ∃ v', u = some v' ∧ Rep G ι (Lv ι S) H v' d' := by
  unfold dGet at h
  cases h1 : dKOf d S with
  | some kds =>
    simp only [h1] at h
    cases h2 : keyOf e with
    | none => rw [h2] at h; cases h
    | some k =>
      rw [h2] at h
      cases h
      obtain ⟨a, kvs, rfl, ha, he, hr⟩ := dK_at R r h1
      obtain ⟨a1, a2⟩ := valD_rep k he hr
      refine ⟨a, valV kvs k, rfl, ?_, a1, a2⟩
      rw [keyOf_rep s h2]
      exact DGet.k ha
  | none =>
    simp only [h1] at h
    cases h3 : dTOf d S with
    | none => simp only [h3] at h; cases h
    | some kds =>
      simp only [h3] at h
      cases h2 : keysOf e with
      | none => rw [h2] at h; cases h
      | some k =>
        rw [h2] at h
        cases h
        obtain ⟨a, kvs, rfl, ha, he, hr⟩ := dT_at R r h3
        obtain ⟨a1, a2⟩ := valD_rep k he hr
        cases e with
        | tup ds =>
          cases s with
          | tup q hl rs =>
            rw [keysOf_rep rs h2] at q
            exact ⟨a, valV kvs k, rfl, DGet.t ha q, a1, a2⟩
        | _ => cases h2
/-! ### subscripts -/
theorem ix_dict {X : Cx} (hu : X.A.units + 1 < cLine) : IxR X (fun x y H Q => ∃ a v, x = .ref a ∧ DGet H a y (some v) ∧ Q v H) := by
  intro value slice pins s σ H x y v u Q Iv rx ry h hs
  obtain ⟨a, z, rfl, g, q⟩ := h
  obtain rfl : v = Value.ref a := rx
  exact tail_any (dict_typeIs Iv g) PySem.F.slot_dict_getitem.lookup (d_getItem hu Iv g ry fun w' s3 I3 rw' => ⟨z, H, I3, rw', q⟩) hs
def rIxU (K : PySem.W.Frag) : R2 := fun x y H Q => rIx K x y H Q ∨ ∃ a v, x = .ref a ∧ DGet H a y (some v) ∧ Q v H
theorem ix_any (F : FamH Xs G E) (j : I) : IxR (Xs j) (rIxU G.K) := by
  have z := (ix_seq (X := Xs j)).or (ix_dict (F.hu j))
  rw [F.K j] at z
  exact z
def atD (ds : List D) (i : Int) : Option D := (ixN ds.length i).bind fun j => ds[j]?
theorem atD_rep {ι : Ix} {L : Addr → Prop} {H : Hp} {vs : List V} {ds : List D} {i : Int} {d : D} (r : Reps G ι L H vs ds) (h : atD ds i = some d) : ∃ v, atI vs i = some v ∧ Rep G ι L H v d := by
  unfold atD at h
  unfold atI
  rw [r.length]
  cases e : ixN ds.length i with
  | none => rw [e] at h; cases h
  | some j =>
    rw [e] at h
    exact r.get h
def p_ixD (x y : D) (S : Sto) : Res D := match dGet x y S with
  | some (some d) => .ok d S
  | _ => .stuck
def p_ixS (x y : D) (S : Sto) : Res D := match x, y with
  | .str z, .int i => if z.length ≤ 1000000 then match atI z.cps.toList i with
      | some c => .ok (.str ⟨#[c]⟩) S
      | none => .stuck else .stuck
  | x, y => p_ixD x y S
def p_ixL (ds : List D) (i : Int) (S : Sto) : Res D := match atD ds i with
  | some d => .ok d S
  | none => .stuck
def p_ix (x y : D) (S : Sto) : Res D := match y with
  | .int i => match itemsOf x S with
    | some ds => p_ixL ds i S
    | none => p_ixS x (.int i) S
  | y => p_ixD x y S
theorem snd_ix : SndR G (rIxU G.K) p_ix := fun E ι S H x y dx dy Q R rx ry q => by
  have dicts : Post G E ι S H (PV G Q) (p_ixD dx dy S) → rIxU G.K x y H Q := fun q0 => by
    unfold p_ixD at q0
    cases h1 : dGet dx dy S with
    | none => rw [h1] at q0; exact q0.elim
    | some o =>
      rw [h1] at q0
      cases o with
      | none => exact q0.elim
      | some d =>
        have q0 : Post G E ι S H (PV G Q) (.ok d S) := q0
        obtain ⟨a, u, rfl, g, _, hs⟩ := dGet_at R rx ry h1
        obtain ⟨v', rfl, rv⟩ := hs d rfl
        exact .inr ⟨a, v', rfl, g, Post.here R q0 v' rv⟩
  cases dy with
  | int i =>
    have q : Post G E ι S H (PV G Q) (match itemsOf dx S with
      | some ds => p_ixL ds i S
      | none => p_ixS dx (.int i) S) := q
    cases h1 : itemsOf dx S with
    | none =>
      rw [h1] at q
      have q : Post G E ι S H (PV G Q) (p_ixS dx (.int i) S) := q
      cases dx with
      | str z =>
        have q0 : Post G E ι S H (PV G Q) (if z.length ≤ 1000000 then match atI z.cps.toList i with
          | some c => .ok (.str ⟨#[c]⟩) S
          | none => .stuck else .stuck) := q
        split at q0
        · rename_i hz
          cases h1 : atI z.cps.toList i with
          | none => rw [h1] at q0; exact q0.elim
          | some c =>
            rw [h1] at q0
            have q0 : Post G E ι S H (PV G Q) (.ok (.str ⟨#[c]⟩) S) := q0
            exact .inl (.inr (.inr ⟨z, i, c, rx.str_of, ry.int_of, Nat.le_trans hz (by rw [sizeLine_eq]; decide), h1, Post.here R q0 _ (.str _)⟩))
        · exact q0.elim
      | _ => exact dicts q
    | some ds =>
      rw [h1] at q
      have q : Post G E ι S H (PV G Q) (match atD ds i with
        | some d => .ok d S
        | none => .stuck) := q
      cases h2 : atD ds i with
      | none => rw [h2] at q; exact q.elim
      | some d =>
        rw [h2] at q
        have q : Post G E ι S H (PV G Q) (.ok d S) := q
        obtain ⟨a, vs, rfl, ha, ra⟩ := items_at R rx h1
        obtain ⟨v, hv, rv⟩ := atD_rep ra h2
        have q1 := Post.here R q v rv
        rcases ha with ha | ha
        · exact .inl (.inl ⟨a, vs, i, v, rfl, ry.int_of, ha, hv, q1⟩)
        · exact .inl (.inr (.inl ⟨a, vs, i, v, rfl, ry.int_of, ha, hv, q1⟩))
  | _ => exact dicts q
theorem de_ix (F : FamH Xs G E) {x y : Expr} {pos : Pos} {a b : ECode} (ha : DE Xs G E x a) (hb : DE Xs G E y b) (hs : PlainIx y) : DE Xs G E (.Subscript x y pos) (c_op p_ix a b) := by
  obtain ⟨ta, pa, sa⟩ := ha
  obtain ⟨tb, pb, sb⟩ := hb
  exact ⟨_, fun j => pe_ix (ix_any F j) (pa j) (pb j) hs, snd_op snd_ix sa sb⟩
/-! ### slices -/
def DP (Xs : I → Cx) (G : Gx) (E : WK) (e : Option Expr) (c : Env → Sto → Res (Option Int)) : Prop := ∃ t : TO, (∀ j, PO (Xs j) e t) ∧ ∀ ι S H σ ρ Q, Rel G ι S H → REnv G ι S H σ ρ → Post G (E σ) ι S H (fun o _ _ H' => Q o H') (c ρ S) → t σ H Q
def c_no : Env → Sto → Res (Option Int) := fun _ S => .ok none S
def c_part (a : ECode) : Env → Sto → Res (Option Int) := fun ρ S => (a ρ S).bind fun d S1 => match d with
  | .int i => .ok (some i) S1
  | _ => .stuck
theorem dp_none : DP Xs G E none c_no := ⟨_, fun _ => po_none, fun ι S H σ ρ Q R e q => Post.here R q⟩
theorem dp_some {e : Expr} {a : ECode} (ha : DE Xs G E e a) : DP Xs G E (some e) (c_part a) := by
  obtain ⟨ta, pa, sa⟩ := ha
  refine ⟨_, fun j => po_some (pa j), fun ι S H σ ρ Q R e q => ?_⟩
  refine sa.go R e q fun d S1 ι1 H1 v x1 R1 e1 r1 q1 => ?_
  cases d with
  | int i => exact ⟨i, r1.int_of, Post.here R1 q1⟩
  | _ => exact q1.elim
def cutD (ds : List D) (lo hi : Option Int) : List D := (ds.drop (HT.sIx ds.length 0 lo)).take (HT.sIx ds.length ds.length hi - HT.sIx ds.length 0 lo)
theorem cutD_rep {ι : Ix} {L : Addr → Prop} {H : Hp} {vs : List V} {ds : List D} (r : Reps G ι L H vs ds) (lo hi : Option Int) : Reps G ι L H (cutV vs lo hi) (cutD ds lo hi) := by
  unfold cutV cutD
  rw [r.length]
  exact (r.drop _).take _
def whole (ds : List D) (lo hi : Option Int) : Bool := decide (HT.sIx ds.length 0 lo = 0 ∧ HT.sIx ds.length ds.length hi = ds.length)
theorem cutD_whole {ds : List D} {lo hi : Option Int} (h : whole ds lo hi = true) : cutD ds lo hi = ds := by
  obtain ⟨h1, h2⟩ := of_decide_eq_true h
  unfold cutD
  rw [h1, h2]
  simp
def p_slL (b : Bool) (x : D) (lo hi : Option Int) (S : Sto) : Res D := match x with
  | .lst ds => p_lst b (cutD ds lo hi) S
  | .scr ds => p_lst b (cutD ds lo hi) S
  | x => match lstOf x S with
    | some ds => p_lst b (cutD ds lo hi) S
    | none => .stuck
def p_sl (b : Bool) (x : D) (lo hi : Option Int) (S : Sto) : Res D := match x with
  | .tup ds => .ok (.tup (cutD ds lo hi)) S
  | .wtp ds => if whole ds lo hi = true then .ok (.wtp ds) S else .ok (.tup (cutD ds lo hi)) S
  | .str z => if z.length ≤ 1000000 then .ok (.str (cutS z lo hi)) S else .stuck
  | x => p_slL b x lo hi S
def rSlU (K : PySem.W.Frag) : V → Option Int → Option Int → Hp → VK → Prop := fun x lo hi H Q => rSlL K x lo hi H Q ∨ rSlA K x lo hi H Q ∨ rSlS x lo hi H Q
theorem sl_any {X : Cx} : SlR X (rSlU X.K) := sl_list.or (sl_tupA.or sl_str)
theorem snd_sl {E0 : XK} (b : Bool) {ι : Ix} {S : Sto} {H : Hp} {x : V} {dx : D} {lo hi : Option Int} {Q : VK} (R : Rel G ι S H) (rx : Rep G ι (Lv ι S) H x dx) (q : Post G E0 ι S H (PV G Q) (p_sl b dx lo hi S)) : rSlU G.K x lo hi H Q := by
  have lists : ∀ ds, (lstOf dx S = some ds ∨ dx = .scr ds) → Post G E0 ι S H (PV G Q) (p_lst b (cutD ds lo hi) S) → rSlU G.K x lo hi H Q := fun ds hd q => by
    have hi' : itemsOf dx S = some ds ∧ ∀ e, dx ≠ .tup e := by
      rcases hd with hd | hd
      · cases dx <;> first | (cases hd; exact ⟨rfl, fun _ h => nomatch h⟩) | exact ⟨hd, fun _ h => nomatch h⟩ | cases hd
      · subst hd
        exact ⟨rfl, fun _ h => nomatch h⟩
    obtain ⟨hi', ht⟩ := hi'
    have hl : ∃ a vs, x = .ref a ∧ SqL G.K H a vs ∧ Reps G ι (Lv ι S) H vs ds := by
      rcases hd with hd | hd
      · obtain ⟨a, vs, h1, h2, h3⟩ := lst_at R rx hd
        exact ⟨a, vs, h1, SqL.of h2, h3⟩
      · subst hd
        cases rx with
        | scr q r =>
          rename_i a vs
          refine ⟨a, vs, rfl, ?_, r⟩
          rcases q with q | q
          · exact .inl q.1
          · exact .inr q
    obtain ⟨a, vs, rfl, ha, ra⟩ := hl
    exact .inl ⟨a, vs, rfl, ha, (p_lst_ok R (cutD_rep ra lo hi) q).2⟩
  have tups : ∀ a vs ds, x = .ref a → SqT G.K H a vs → Reps G ι (Lv ι S) H vs ds → (whole ds lo hi = true → Q (.ref a) H) → (¬ whole ds lo hi = true → Post G E0 ι S H (PV G Q) (.ok (.tup (cutD ds lo hi)) S)) → rSlU G.K x lo hi H Q := fun a vs ds ex hs rs q1 q2 => by
    refine .inr (.inl ⟨a, vs, ex, hs, fun h => q1 ?_, fun h p hp => ?_⟩)
    · rw [rs.length] at h
      exact decide_eq_true h
    · rw [rs.length] at h
      have q3 := q2 fun z => h (of_decide_eq_true z)
      obtain ⟨x', R', r'⟩ := new_tup R hp (cutD_rep rs lo hi)
      exact q3 _ _ x' R' _ r'
  cases dx with
  | tup ds =>
    have q : Post G E0 ι S H (PV G Q) (.ok (.tup (cutD ds lo hi)) S) := q
    obtain ⟨a, vs, rfl, hs, rs⟩ := rx.sqT
    refine tups a vs ds rfl hs rs (fun h => ?_) fun _ => q
    rw [cutD_whole h] at q
    exact Post.here R q _ rx
  | wtp ds =>
    have q : Post G E0 ι S H (PV G Q) (if whole ds lo hi = true then .ok (.wtp ds) S else .ok (.tup (cutD ds lo hi)) S) := q
    cases rx with
    | wtp hw r =>
      rename_i a vs
      refine tups a vs ds rfl (.inr hw) r (fun h => ?_) fun h => ?_
      · rw [if_pos h] at q
        exact Post.here R q _ (.wtp hw r)
      · rw [if_neg h] at q
        exact q
  | str z =>
    have q : Post G E0 ι S H (PV G Q) (if z.length ≤ 1000000 then .ok (.str (cutS z lo hi)) S else .stuck) := q
    split at q
    · rename_i hz
      exact .inr (.inr ⟨z, rx.str_of, Nat.le_trans hz (by rw [sizeLine_eq]; decide), Post.here R q _ (.str _)⟩)
    · exact q.elim
  | lst ds => exact lists ds (.inl rfl) q
  | scr ds => exact lists ds (.inr rfl) q
  | ref n =>
    have q : Post G E0 ι S H (PV G Q) (match lstOf (.ref n) S with
      | some ds => p_lst b (cutD ds lo hi) S
      | none => .stuck) := q
    cases h1 : lstOf (.ref n) S with
    | none => rw [h1] at q; exact q.elim
    | some ds =>
      rw [h1] at q
      exact lists ds (.inl h1) q
  | _ => exact q.elim
def c_sl (b : Bool) (a : ECode) (l h : Env → Sto → Res (Option Int)) : ECode := fun ρ S => (a ρ S).bind fun x S1 => (l ρ S1).bind fun lo S2 => (h ρ S2).bind fun hi S3 => p_sl b x lo hi S3
theorem de_sl (b : Bool) {e : Expr} {lo hi : Option Expr} {p2 pos : Pos} {a : ECode} {l h : Env → Sto → Res (Option Int)} (ha : DE Xs G E e a) (hl : DP Xs G E lo l) (hh : DP Xs G E hi h) (F : Fam Xs G E kk) : DE Xs G E (.Subscript e (.Slice lo hi none p2) pos) (c_sl b a l h) := by
  obtain ⟨ta, pa, sa⟩ := ha
  obtain ⟨tl, pl, sl⟩ := hl
  obtain ⟨th, ph, sh⟩ := hh
  refine ⟨tSl (rSlU G.K) ta tl th, fun j => by have z := pe_slice (X := Xs j) (p2 := p2) (pos := pos) sl_any (pa j) (pl j) (ph j); rw [F.K j] at z; exact z, fun ι S H σ ρ Q R e q => ?_⟩
  refine sa.go R e q fun d S1 ι1 H1 v x1 R1 e1 r1 q1 => ?_
  refine sl ι1 S1 H1 σ ρ _ R1 e1 (Post.bind q1 fun lo S2 ι2 H2 x2 R2 q2 => ?_)
  refine sh ι2 S2 H2 σ ρ _ R2 (e1.mono x2) (Post.bind q2 fun hi S3 ι3 H3 x3 R3 q3 => ?_)
  exact snd_sl b R3 ((r1.mono x2).mono x3) q3
/-- xs[::-1] -/
def c_rev (b : Bool) (a : ECode) : ECode := fun ρ S => (a ρ S).bind fun x S1 => match x with
  | .tup ds => p_tup ds.reverse S1
  | .wtp ds => p_tup ds.reverse S1
  | x => match itemsOf x S1 with
    | some ds => p_lst b ds.reverse S1
    | none => .stuck
theorem lists_at {ι : Ix} {S : Sto} {H : Hp} {v : V} {d : D} {ds : List D} (R : Rel G ι S H) (r : Rep G ι (Lv ι S) H v d) (h : itemsOf d S = some ds) (h1 : ∀ e, d ≠ .tup e) (h2 : ∀ e, d ≠ .wtp e) : ∃ a vs, v = .ref a ∧ SqL G.K H a vs ∧ Reps G ι (Lv ι S) H vs ds := by
  cases d with
  | tup _ => exact absurd rfl (h1 _)
  | wtp _ => exact absurd rfl (h2 _)
  | scr es =>
    cases h
    cases r with
    | scr q r =>
      rename_i a vs
      refine ⟨a, vs, rfl, ?_, r⟩
      rcases q with q | q
      · exact .inl q.1
      · exact .inr q
  | lst es =>
    obtain ⟨a, vs, h1, h2, h3⟩ := lst_at R r (show lstOf (.lst es) S = some ds from h)
    exact ⟨a, vs, h1, SqL.of h2, h3⟩
  | ref n =>
    obtain ⟨a, vs, h1, h2, h3⟩ := lst_at R r (show lstOf (.ref n) S = some ds from h)
    exact ⟨a, vs, h1, SqL.of h2, h3⟩
  | _ => cases h
theorem de_rev (b : Bool) (F : Fam Xs G E kk) {e : Expr} {k : Nat} {p1 p2 p3 pos : Pos} {a : ECode} (ha : DE Xs G E e a) : DE Xs G E (.Subscript e (.Slice none none (some (.UnaryOp .USub (.Constant (.int 1) k p1) p2)) p3) pos) (c_rev b a) := by
  obtain ⟨ta, pa, sa⟩ := ha
  refine ⟨tRevU G.K ta, fun j => by have z := pe_revU (X := Xs j) (k := k) (p1 := p1) (p2 := p2) (p3 := p3) (pos := pos) (pa j); rw [F.K j] at z; exact z, fun ι S H σ ρ Q R e q => ?_⟩
  refine sa.go R e q fun d S1 ι1 H1 v x1 R1 e1 r1 q1 => ?_
  have main : ∀ ds, itemsOf d S1 = some ds → (∀ e, d ≠ .tup e) → (∀ e, d ≠ .wtp e) → Post G (E σ) ι1 S1 H1 (PV G Q) (p_lst b ds.reverse S1) → (∃ a xs, v = .ref a ∧ SqL G.K H1 a xs ∧ ∀ p, H1 p = none → Q (.ref p) (upd H1 p (.lst xs.reverse))) ∨ (∃ a xs, v = .ref a ∧ SqT G.K H1 a xs ∧ ∀ p, H1 p = none → Q (.ref p) (upd H1 p (.tup xs.reverse))) := fun ds h h1 h2 q => by
    obtain ⟨a, vs, rfl, hs, rs⟩ := lists_at R1 r1 h h1 h2
    exact .inl ⟨a, vs, rfl, hs, (p_lst_ok R1 rs.rev q).2⟩
  have gen : (∀ e, d ≠ .tup e) → (∀ e, d ≠ .wtp e) → Post G (E σ) ι1 S1 H1 (PV G Q) (match itemsOf d S1 with
    | some ds => p_lst b ds.reverse S1
    | none => .stuck) → (∃ a xs, v = .ref a ∧ SqL G.K H1 a xs ∧ ∀ p, H1 p = none → Q (.ref p) (upd H1 p (.lst xs.reverse))) ∨ (∃ a xs, v = .ref a ∧ SqT G.K H1 a xs ∧ ∀ p, H1 p = none → Q (.ref p) (upd H1 p (.tup xs.reverse))) := fun h1 h2 q => by
    cases h : itemsOf d S1 with
    | none => rw [h] at q; exact q.elim
    | some ds =>
      rw [h] at q
      exact main ds h h1 h2 q
  cases d with
  | tup ds =>
    cases r1 with
    | tup h hl rs => exact .inr ⟨_, _, rfl, SqT.of h, (p_tup_ok R1 rs.rev q1).2⟩
  | wtp ds =>
    cases r1 with
    | wtp h rs => exact .inr ⟨_, _, rfl, .inr h, (p_tup_ok R1 rs.rev q1).2⟩
  | _ => exact gen (fun _ h => nomatch h) (fun _ h => nomatch h) q1
end
end DL
set_option Elab.async false
set_option linter.all false
set_option maxRecDepth 100000
set_option maxHeartbeats 4000000
/-! DL8: built-in functions, methods of lists, stores -/
namespace DL
open PySem PySem.Spec PyProof.Rows L2
section
variable {I : Type} {Xs : I → Cx} {G : Gx} {E : WK} {kk : Nat}
/-! ### calls of built-in functions -/
def c_cb (p : List D → Sto → Res D) (a : ACode) : ECode := fun ρ S => (a ρ S).bind p
theorem snd_cb {r : List V → Hp → VK → Prop} {p : List D → Sto → Res D} {t : TA} {a : ACode} (hr : SndC G r p) (sa : SndA G E t a) : Snd G E (tCB r t) (c_cb p a) := fun ι S H σ ρ Q R e q =>
  sa.go R e q fun ds S1 ι1 H1 vs x1 R1 e1 r1 q1 => hr (E σ) ι1 S1 H1 vs ds Q R1 r1 q1
theorem de_callB (F : FamH Xs G E) {id : String} {x : Str} {p pos : Pos} {e : Expr} {es : List Expr} {r : List V → Hp → VK → Prop} {m : List D → Sto → Res D} {a : ACode} (hc : ∀ j, CallR (Xs j) (.builtin id) r) (hr : SndC G r m) (ha : DA Xs G E (e :: es) a)
    (hg : ∀ j, Gl (Xs j) x) (hm : G.mg x = none) (hv : bootBuiltins x = some (.builtin id)) (hn : x ≠ "__name__") (hdb : (x == ("__debug__" : Str)) = false)
    (he : ∀ j, starEach (e :: es) (Xs j).env = (false, eval e (Xs j).env) :: starEach es (Xs j).env) (hpl : ∀ j, (backTo pos (starEach es (Xs j).env)).any (·.1) = false) : DE Xs G E (.Call (.Name x p) (e :: es) [] pos) (c_cb m a) := by
  obtain ⟨t, pa, sa⟩ := ha
  exact ⟨_, fun j => pe_callB (hc j) (hg j) (by rw [F.mg j]; exact hm) hv (pa j) hn hdb (he j) (hpl j), snd_cb hr sa⟩
theorem de_callTy (F : FamH Xs G E) {T : String} {x : Str} {p pos : Pos} {e : Expr} {es : List Expr} {r : List V → Hp → VK → Prop} {m : List D → Sto → Res D} {a : ACode} (hc : ∀ j, CallR (Xs j) (.type T) r) (hr : SndC G r m) (ha : DA Xs G E (e :: es) a)
    (hg : ∀ j, Gl (Xs j) x) (hm : G.mg x = none) (hv : bootBuiltins x = some (.type T)) (hn : x ≠ "__name__") (hdb : (x == ("__debug__" : Str)) = false)
    (he : ∀ j, starEach (e :: es) (Xs j).env = (false, eval e (Xs j).env) :: starEach es (Xs j).env) (hpl : ∀ j, (backTo pos (starEach es (Xs j).env)).any (·.1) = false) : DE Xs G E (.Call (.Name x p) (e :: es) [] pos) (c_cb m a) := by
  obtain ⟨t, pa, sa⟩ := ha
  exact ⟨_, fun j => pe_callTy (hc j) (hg j) (by rw [F.mg j]; exact hm) hv (pa j) hn hdb (he j) (hpl j), snd_cb hr sa⟩
/-! len -/
def lenOf (d : D) (S : Sto) : Option Nat := match itemsOf d S with
  | some ds => some ds.length
  | none => match dKOf d S with
    | some kds => some kds.length
    | none => match dTOf d S with
      | some kds => some kds.length
      | none => none
def p_len (ds : List D) (S : Sto) : Res D := match ds with
  | [.str z] => if z.length ≤ 1000000 then .ok (.int z.length) S else .stuck
  | [d] => match lenOf d S with
    | some n => .ok (.int n) S
    | none => .stuck
  | _ => .stuck
def rLenU (K : PySem.W.Frag) : List V → Hp → VK → Prop := fun xs H Q => (∃ p ys, xs = [.ref p] ∧ (SqL K H p ys ∨ SqT K H p ys) ∧ Q (.int ys.length) H) ∨ (∃ z, xs = [.str z] ∧ z.length ≤ sizeLine ∧ Q (.int z.length) H) ∨ (∃ a kvs, xs = [V.ref a] ∧ H a = some (.dK kvs) ∧ Q (.int kvs.length) H) ∨ rLenT xs H Q
theorem call_lenU {X : Cx} : CallR X (.builtin "len") (rLenU X.K) := call_len_seq.or (call_len_str.or (call_lenD.or call_len_dT))
theorem Reps.one {ι : Ix} {L : Addr → Prop} {H : Hp} {vs : List V} {d : D} (r : Reps G ι L H vs [d]) : ∃ v, vs = [v] ∧ Rep G ι L H v d := by
  cases r with
  | cons q r =>
    cases r
    exact ⟨_, rfl, q⟩
theorem Reps.two {ι : Ix} {L : Addr → Prop} {H : Hp} {vs : List V} {d e : D} (r : Reps G ι L H vs [d, e]) : ∃ v w, vs = [v, w] ∧ Rep G ι L H v d ∧ Rep G ι L H w e := by
  cases r with
  | cons q r =>
    obtain ⟨w, rfl, s⟩ := r.one
    exact ⟨_, _, rfl, q, s⟩
theorem snd_len : SndC G (rLenU G.K) p_len := fun E ι S H xs ds Q R r q => by
  have main : ∀ d, ds = [d] → Post G E ι S H (PV G Q) (match lenOf d S with
    | some n => .ok (.int n) S
    | none => .stuck) → rLenU G.K xs H Q := fun d e q0 => by
    clear q
    have q := q0
    clear q0
    subst e
    obtain ⟨v, rfl, rv⟩ := r.one
    unfold lenOf at q
    cases h1 : itemsOf d S with
    | some es =>
      rw [h1] at q
      have q : Post G E ι S H (PV G Q) (.ok (.int es.length) S) := q
      obtain ⟨a, vs, rfl, ha, ra⟩ := items_at R rv h1
      refine .inl ⟨a, vs, rfl, ha, ?_⟩
      rw [ra.length]
      exact Post.here R q _ (.int _)
    | none =>
      rw [h1] at q
      cases h2 : dKOf d S with
      | some kds =>
        rw [h2] at q
        have q : Post G E ι S H (PV G Q) (.ok (.int kds.length) S) := q
        obtain ⟨a, kvs, rfl, ha, he, _⟩ := dK_at R rv h2
        refine .inr (.inr (.inl ⟨a, kvs, rfl, ha, ?_⟩))
        rw [len_fst he]
        exact Post.here R q _ (.int _)
      | none =>
        rw [h2] at q
        cases h3 : dTOf d S with
        | some kds =>
          rw [h3] at q
          have q : Post G E ι S H (PV G Q) (.ok (.int kds.length) S) := q
          obtain ⟨a, kvs, rfl, ha, he, _⟩ := dT_at R rv h3
          refine .inr (.inr (.inr ⟨a, kvs, rfl, ha, ?_⟩))
          rw [len_fst he]
          exact Post.here R q _ (.int _)
        | none =>
          rw [h3] at q
          exact q.elim
  cases ds with
  | nil => exact q.elim
  | cons d es =>
    cases es with
    | nil =>
      cases d with
      | str z =>
        have q : Post G E ι S H (PV G Q) (if z.length ≤ 1000000 then .ok (.int z.length) S else .stuck) := q
        split at q
        · rename_i hz
          obtain ⟨v, rfl, rv⟩ := r.one
          refine .inr (.inl ⟨z, by rw [rv.str_of], Nat.le_trans hz (by rw [sizeLine_eq]; decide), Post.here R q _ (.int _)⟩)
        · exact q.elim
      | _ => exact main _ rfl q
    | cons e es => cases d <;> exact q.elim
/-! list, tuple -/
def p_list (b : Bool) (ds : List D) (S : Sto) : Res D := match ds with
  | [d] => match itemsOf d S with
    | some es => p_lst b es S
    | none => .stuck
  | _ => .stuck
def rListU (K : PySem.W.Frag) : List V → Hp → VK → Prop := fun xs H Q => ∃ p ys, xs = [.ref p] ∧ (SqL K H p ys ∨ SqT K H p ys) ∧ ∀ l, H l = none → Q (.ref l) (upd H l (.lst ys))
theorem snd_list (b : Bool) : SndC G (rListU G.K) (p_list b) := fun E ι S H xs ds Q R r q => by
  cases ds with
  | nil => exact q.elim
  | cons d es =>
    cases es with
    | nil =>
      obtain ⟨v, rfl, rv⟩ := r.one
      have q : Post G E ι S H (PV G Q) (match itemsOf d S with
        | some es => p_lst b es S
        | none => .stuck) := q
      cases h1 : itemsOf d S with
      | none => rw [h1] at q; exact q.elim
      | some es =>
        rw [h1] at q
        obtain ⟨a, vs, rfl, ha, ra⟩ := items_at R rv h1
        exact ⟨a, vs, rfl, ha, (p_lst_ok R ra q).2⟩
    | cons e es => exact q.elim
def p_tuple (ds : List D) (S : Sto) : Res D := match ds with
  | [.tup es] => .ok (.tup es) S
  | [.wtp es] => .ok (.wtp es) S
  | [d] => match itemsOf d S with
    | some es => p_tup es S
    | none => .stuck
  | _ => .stuck
def rTupleU (K : PySem.W.Frag) : List V → Hp → VK → Prop := fun xs H Q => ∃ p ys, xs = [.ref p] ∧ ((SqL K H p ys ∧ ∀ l, H l = none → Q (.ref l) (upd H l (.tup ys))) ∨ (SqT K H p ys ∧ Q (.ref p) H))
theorem snd_tuple : SndC G (rTupleU G.K) p_tuple := fun E ι S H xs ds Q R r q => by
  have main : ∀ d, ds = [d] → (∀ e, d ≠ .tup e) → (∀ e, d ≠ .wtp e) → Post G E ι S H (PV G Q) (match itemsOf d S with
    | some es => p_tup es S
    | none => .stuck) → rTupleU G.K xs H Q := fun d e n1 n2 q0 => by
    clear q
    have q := q0
    clear q0
    subst e
    obtain ⟨v, rfl, rv⟩ := r.one
    cases h1 : itemsOf d S with
    | none => rw [h1] at q; exact q.elim
    | some es =>
      rw [h1] at q
      obtain ⟨a, vs, rfl, ha, ra⟩ := lists_at R rv h1 n1 n2
      exact ⟨a, vs, rfl, .inl ⟨ha, (p_tup_ok R ra q).2⟩⟩
  cases ds with
  | nil => exact q.elim
  | cons d es =>
    cases es with
    | nil =>
      cases d with
      | tup es =>
        obtain ⟨v, rfl, rv⟩ := r.one
        have q : Post G E ι S H (PV G Q) (.ok (.tup es) S) := q
        obtain ⟨a, vs, rfl, hs, _⟩ := rv.sqT
        exact ⟨a, vs, rfl, .inr ⟨hs, Post.here R q _ rv⟩⟩
      | wtp es =>
        obtain ⟨v, rfl, rv⟩ := r.one
        have q : Post G E ι S H (PV G Q) (.ok (.wtp es) S) := q
        cases rv with
        | wtp hw rs => exact ⟨_, _, rfl, .inr ⟨.inr hw, Post.here R q _ (.wtp hw rs)⟩⟩
      | _ => exact main _ rfl (fun _ h => nomatch h) (fun _ h => nomatch h) q
    | cons e es => cases d <;> exact q.elim
/-! ints -/
def p_i1 (f : Int → D) (ds : List D) (S : Sto) : Res D := match ds with
  | [.int i] => .ok (f i) S
  | _ => .stuck
def p_i2 (f : Int → Int → D) (ds : List D) (S : Sto) : Res D := match ds with
  | [.int i, .int j] => .ok (f i j) S
  | _ => .stuck
def p_min2 := p_i2 fun i j => .int (if j < i then j else i)
def p_max2 := p_i2 fun i j => .int (if j > i then j else i)
def p_abs := p_i1 fun i => .int (if i < 0 then -i else i)
theorem snd_i1 {f : Int → V} {g : Int → D} (h : ∀ i ι L H, Rep G ι L H (f i) (g i)) : SndC G (fun xs H Q => ∃ i, xs = [.int i] ∧ Q (f i) H) (p_i1 g) := fun E ι S H xs ds Q R r q => by
  unfold p_i1 at q
  split at q
  · obtain ⟨v, rfl, rv⟩ := r.one
    exact ⟨_, by rw [rv.int_of], Post.here R q _ (h _ _ _ _)⟩
  · exact q.elim
theorem snd_abs : SndC G (fun xs H Q => ∃ i, xs = [.int i] ∧ Q (.int (if i < 0 then -i else i)) H) p_abs := snd_i1 fun _ _ _ _ => .int _
/-! sum, any, all of a list -/
def intOf : D → Option Int
  | .int i => some i
  | _ => none
def blOf : D → Option Bool
  | .bl b => some b
  | _ => none
theorem Reps.ints {ι : Ix} {L : Addr → Prop} {H : Hp} : ∀ {vs : List V} {ds : List D} {ns : List Int}, Reps G ι L H vs ds → ds.mapM intOf = some ns → vs = ns.map V.int
  | _, _, ns, .nil, h => by
    simp at h
    subst h
    rfl
  | _, d :: ds, ns, .cons q r, h => by
    rw [List.mapM_cons] at h
    cases d with
    | int i =>
      cases e2 : ds.mapM intOf with
      | none => rw [e2] at h; cases h
      | some ks' =>
        rw [e2] at h
        cases h
        rw [List.map_cons, q.int_of, Reps.ints r e2]
    | _ => cases h
theorem Reps.bls {ι : Ix} {L : Addr → Prop} {H : Hp} : ∀ {vs : List V} {ds : List D} {ns : List Bool}, Reps G ι L H vs ds → ds.mapM blOf = some ns → vs = ns.map V.bl
  | _, _, ns, .nil, h => by
    simp at h
    subst h
    rfl
  | _, d :: ds, ns, .cons q r, h => by
    rw [List.mapM_cons] at h
    cases d with
    | bl i =>
      cases e2 : ds.mapM blOf with
      | none => rw [e2] at h; cases h
      | some ks' =>
        rw [e2] at h
        cases h
        rw [List.map_cons, q.bl_of, Reps.bls r e2]
    | _ => cases h
/-- the items of a list -/
def listOf : D → Sto → Option (List D)
  | .tup _, _ => none
  | .wtp _, _ => none
  | d, S => itemsOf d S
theorem list_at {ι : Ix} {S : Sto} {H : Hp} {v : V} {d : D} {ds : List D} (R : Rel G ι S H) (r : Rep G ι (Lv ι S) H v d) (h : listOf d S = some ds) : ∃ a vs, v = .ref a ∧ SqL G.K H a vs ∧ Reps G ι (Lv ι S) H vs ds := by
  cases d with
  | tup _ => cases h
  | wtp _ => cases h
  | _ => exact lists_at R r h (fun _ h => nomatch h) (fun _ h => nomatch h)
def p_bls (f : List Bool → D) (ds : List D) (S : Sto) : Res D := match ds with
  | [d] => match (listOf d S).bind (·.mapM blOf) with
    | some ns => .ok (f ns) S
    | none => .stuck
  | _ => .stuck
theorem snd_bls {f : List Bool → V} {g : List Bool → D} (h : ∀ i ι L H, Rep G ι L H (f i) (g i)) : SndC G (fun vs H Q => ∃ (a : Addr) (ns : List Bool), vs = [V.ref a] ∧ SqL G.K H a (ns.map V.bl) ∧ Q (f ns) H) (p_bls g) := fun E ι S H xs ds Q R r q => by
  unfold p_bls at q
  split at q
  · rename_i d
    obtain ⟨v, rfl, rv⟩ := r.one
    cases h1 : listOf d S with
    | none => rw [h1] at q; exact q.elim
    | some es =>
      rw [h1] at q
      cases h2 : es.mapM blOf with
      | none => simp only [Option.bind_some, h2] at q; exact q.elim
      | some ns =>
        simp only [Option.bind_some, h2] at q
        obtain ⟨a, vs, rfl, ha, ra⟩ := list_at R rv h1
        rw [ra.bls h2] at ha
        exact ⟨a, ns, rfl, ha, Post.here R q _ (h _ _ _ _)⟩
  · exact q.elim
def p_all := p_bls fun ns => .bl (ns.all id)
theorem snd_all : SndC G (rAll G.K) p_all := snd_bls fun _ _ _ _ => .bl _
/-! ### methods of lists -/
def c_meth (g : D → Sto → Bool) (p : D → List D → Sto → Res D) (o : ECode) (a : ACode) : ECode := fun ρ S => (o ρ S).bind fun x S1 => if g x S1 = true then (a ρ S1).bind fun ds S2 => p x ds S2 else .stuck
theorem snd_meth {T : String} {r : V → List V → Hp → VK → Prop} {g : D → Sto → Bool} {p : D → List D → Sto → Res D} {to : TE} {t : TA} {o : ECode} {a : ACode} (hr : SndM G r p) (hg : ∀ ι S H x d, Rel G ι S H → Rep G ι (Lv ι S) H x d → g d S = true → tyV G.K T x H)
    (so : Snd G E to o) (sa : SndA G E t a) : Snd G E (tBM G.K T r to t) (c_meth g p o a) := fun ι S H σ ρ Q R e q => by
  refine so.go R e q fun d S1 ι1 H1 v x1 R1 e1 r1 q1 => ?_
  by_cases hd : g d S1 = true
  · rw [if_pos hd] at q1
    refine ⟨hg ι1 S1 H1 v d R1 r1 hd, ?_⟩
    refine sa.go R1 e1 q1 fun ds S2 ι2 H2 vs x2 R2 e2 r2 q2 => ?_
    exact hr (E σ) ι2 S2 H2 v vs d ds Q R2 (r1.mono x2) r2 q2
  · rw [if_neg hd] at q1
    exact q1.elim
theorem de_meth (F : FamH Xs G E) {T id : String} {name : Str} {apos cpos : Pos} {o e : Expr} {es : List Expr} {r : V → List V → Hp → VK → Prop} {g : D → Sto → Bool} {p : D → List D → Sto → Res D} {co : ECode} {a : ACode} (pa : PlainAttrs T) (slot : Slot T name id) (hty : typeOf (.builtin id) = pure (.type "method_descriptor"))
    (hm : ∀ j, MtR (Xs j) id r) (hr : SndM G r p) (hg : ∀ ι S H x d, Rel G ι S H → Rep G ι (Lv ι S) H x d → g d S = true → tyV G.K T x H) (ho : DE Xs G E o co) (ha : DA Xs G E (e :: es) a)
    (hbase : ∀ j, attributeBase o name (Xs j).env (eval o (Xs j).env) = eval o (Xs j).env)
    (hfew : ∀ j, ((backTo cpos (starEach (e :: es) (Xs j).env)).all (fun x => !x.1) && (backToKw cpos (keywordEach [] (Xs j).env)).all (fun x => x.1.isSome)
      && decide ((e :: es).length + ([] : List Keyword).length + (if ([] : List Keyword).isEmpty then 0 else 1) < 30)) = true)
    (hline : (apos.endLine == cpos.line) = true) (hs : ∀ j, starEach (e :: es) (Xs j).env = (false, eval e (Xs j).env) :: starEach es (Xs j).env) (hplain : ∀ j, (backTo cpos (starEach es (Xs j).env)).any (·.1) = false) :
    DE Xs G E (.Call (.Attribute o name apos) (e :: es) [] cpos) (c_meth g p co a) := by
  obtain ⟨to, po, so⟩ := ho
  obtain ⟨t, pa', sa⟩ := ha
  exact ⟨tBM G.K T r to t, fun j => by have z := pe_bm (X := Xs j) pa slot hty (hm j) (po j) (pa' j) (hbase j) (hfew j) hline (hs j) (hplain j); rw [F.K j] at z; exact z, snd_meth hr hg so sa⟩
theorem de_meth0 (F : FamH Xs G E) {T id : String} {name : Str} {apos cpos : Pos} {o : Expr} {r : V → List V → Hp → VK → Prop} {g : D → Sto → Bool} {p : D → List D → Sto → Res D} {co : ECode} (pa : PlainAttrs T) (slot : Slot T name id) (hty : typeOf (.builtin id) = pure (.type "method_descriptor"))
    (hm : ∀ j, MtR (Xs j) id r) (hr : SndM G r p) (hg : ∀ ι S H x d, Rel G ι S H → Rep G ι (Lv ι S) H x d → g d S = true → tyV G.K T x H) (ho : DE Xs G E o co)
    (hbase : ∀ j, attributeBase o name (Xs j).env (eval o (Xs j).env) = eval o (Xs j).env) (hline : (apos.endLine == cpos.line) = true) :
    DE Xs G E (.Call (.Attribute o name apos) [] [] cpos) (c_meth g p co c_nil) := by
  obtain ⟨to, po, so⟩ := ho
  refine ⟨tBM0 G.K T r to, fun j => by have z := pe_bm0 (X := Xs j) pa slot hty (hm j) (po j) (hbase j) hline; rw [F.K j] at z; exact z, fun ι S H σ ρ Q R e q => ?_⟩
  refine so.go R e q fun d S1 ι1 H1 v x1 R1 e1 r1 q1 => ?_
  by_cases hd : g d S1 = true
  · rw [if_pos hd] at q1
    exact ⟨hg ι1 S1 H1 v d R1 r1 hd, hr (E σ) ι1 S1 H1 v [] d [] Q R1 r1 .nil q1⟩
  · rw [if_neg hd] at q1
    exact q1.elim
/-- a list cell that is written -/
def isL (d : D) (S : Sto) : Bool := (lstOf d S).isSome
theorem isL_ty {ι : Ix} {S : Sto} {H : Hp} {x : V} {d : D} (R : Rel G ι S H) (r : Rep G ι (Lv ι S) H x d) (h : isL d S = true) : tyV G.K "list" x H := by
  unfold isL at h
  cases e : lstOf d S with
  | none => rw [e] at h; cases h
  | some ds =>
    obtain ⟨a, vs, rfl, ha, _⟩ := lst_at R r e
    exact .inl ⟨rfl, vs, SqL.of ha⟩
end
end DL
set_option Elab.async false
set_option linter.all false
set_option maxRecDepth 100000
set_option maxHeartbeats 4000000
/-! DL9: cells that are written -/
namespace DL
open PySem PySem.Spec PyProof.Rows L2
section
variable {I : Type} {Xs : I → Cx} {G : Gx} {E : WK} {kk : Nat}
def cellOf (S : Sto) (n : Nat) : Option Cell := match S[n]? with
  | some (some c) => some c
  | _ => none
theorem cellOf_eq {S : Sto} {n : Nat} {c : Cell} (h : cellOf S n = some c) : S[n]? = some (some c) := by
  unfold cellOf at h
  split at h
  · rename_i e
    rw [e]
    cases h
    rfl
  · cases h
theorem wr_cell {ι : Ix} {S : Sto} {H : Hp} {a : Addr} {n : Nat} {c0 c : Cell} {o : HO} (R : Rel G ι S H) (hn : ι.l[n]? = some a) (hs : cellOf S n = some c0)
    (hc : Ext ι S H ι (S.set n (some c)) (upd H a o) → CellIs G ι (Lv ι (S.set n (some c))) (upd H a o) a c) : Ext ι S H ι (S.set n (some c)) (upd H a o) ∧ Rel G ι (S.set n (some c)) (upd H a o) := by
  have x : Ext ι S H ι (S.set n (some c)) (upd H a o) := Ext.write hn (cellOf_eq hs)
  exact ⟨x, R.write hn (cellOf_eq hs) (hc x)⟩
theorem wr_lst {ι : Ix} {S : Sto} {H : Hp} {a : Addr} {n : Nat} {c0 : Cell} {vs : List V} {ds : List D} (R : Rel G ι S H) (hn : ι.l[n]? = some a) (hs : cellOf S n = some c0) (r : Reps G ι (Lv ι S) H vs ds) :
    Ext ι S H ι (S.set n (some (.lst ds))) (upd H a (.lst vs)) ∧ Rel G ι (S.set n (some (.lst ds))) (upd H a (.lst vs)) := wr_cell R hn hs fun x => ⟨vs, upd_same, r.mono x⟩
theorem ref_cell {ι : Ix} {S : Sto} {H : Hp} {v : V} {n : Nat} {c : Cell} (R : Rel G ι S H) (r : Rep G ι (Lv ι S) H v (.ref n)) (hs : cellOf S n = some c) : ∃ a, v = .ref a ∧ ι.l[n]? = some a ∧ CellIs G ι (Lv ι S) H a c := by
  cases r with
  | ref q =>
    obtain ⟨a, h1, h2⟩ := R.cell n c (cellOf_eq hs)
    rw [q] at h1
    cases h1
    exact ⟨_, rfl, q, h2⟩
/-! ### methods of lists -/
def p_append (x : D) (ds : List D) (S : Sto) : Res D := match x, ds with
  | .ref n, [d] => match cellOf S n with
    | some (.lst es) => if fits (es.length + 1) = true then .ok .non (S.set n (some (.lst (es ++ [d])))) else .stuck
    | _ => .stuck
  | _, _ => .stuck
theorem snd_append : SndM G rAppend p_append := fun E ι S H x xs dx ds Q R rx rs q => by
  unfold p_append at q
  split at q
  · rename_i n d
    split at q
    · rename_i es hs
      split at q
      · rename_i hf
        obtain ⟨a, rfl, hn, vs, ha, ra⟩ := ref_cell R rx hs
        obtain ⟨w, rfl, rw'⟩ := rs.one
        obtain ⟨x1, R1⟩ := wr_lst R hn hs (ra.app (.cons rw' .nil))
        refine ⟨a, vs, w, rfl, rfl, ha, ?_, q _ _ x1 R1 _ .non⟩
        rw [ra.length]
        have := fits_le hf
        omega
      · exact q.elim
    · exact q.elim
  · exact q.elim
def p_pop (x : D) (ds : List D) (S : Sto) : Res D := match x, ds with
  | .ref n, [] => match cellOf S n with
    | some (.lst es) => match es[es.length - 1]? with
      | some y => .ok y (S.set n (some (.lst es.dropLast)))
      | none => .stuck
    | _ => .stuck
  | _, _ => .stuck
theorem Reps.dropLast {ι : Ix} {L : Addr → Prop} {H : Hp} {vs : List V} {ds : List D} (r : Reps G ι L H vs ds) : Reps G ι L H vs.dropLast ds.dropLast := by
  rw [List.dropLast_eq_take, List.dropLast_eq_take, r.length]
  exact r.take _
theorem snd_pop : SndM G rPop p_pop := fun E ι S H x xs dx ds Q R rx rs q => by
  unfold p_pop at q
  split at q
  · rename_i n
    split at q
    · rename_i es hs
      split at q
      · rename_i y hy
        obtain ⟨a, rfl, hn, vs, ha, ra⟩ := ref_cell R rx hs
        cases rs
        obtain ⟨w, hw, rw'⟩ := ra.get hy
        obtain ⟨x1, R1⟩ := wr_lst R hn hs ra.dropLast
        exact ⟨a, vs, w, rfl, rfl, ha, by rw [ra.length]; exact hw, q _ _ x1 R1 _ (rw'.mono x1)⟩
      · exact q.elim
    · exact q.elim
  · exact q.elim
/-! ### o[i] = v -/
def p_setI (x y v : D) (S : Sto) : Res Unit := match x with
  | .ref n => match cellOf S n with
    | some (.lst es) => match y with
      | .int i => match ixN es.length i with
        | some j => .ok () (S.set n (some (.lst (es.set j v))))
        | none => .stuck
      | _ => .stuck
    | some (.dK kds) => match keyOf y with
      | some k => if fits kds.length = true then .ok () (S.set n (some (.dK (putD kds k v)))) else .stuck
      | none => .stuck
    | some (.dT kds) => match keysOf y with
      | some k => if fits kds.length = true then .ok () (S.set n (some (.dT (putD kds k v)))) else .stuck
      | none => .stuck
    | _ => .stuck
  | _ => .stuck
def rSetU : TSet := fun o i v H Q => rSetL o i v H Q ∨ rSetD o i v H Q
theorem set_any {X : Cx} (hu : X.A.units + 1 < cLine) : PSet X rSetU := by
  intro pins s σ H o i v ov iv u Q I ro ri rv h
  rcases h with h | h
  · exact set_list pins s σ H o i v ov iv u Q I ro ri rv h
  · exact set_dict hu pins s σ H o i v ov iv u Q I ro ri rv h
theorem keysOf_tup {d : D} {ks : List Key} (h : keysOf d = some ks) : ∃ ds, d = .tup ds ∧ ds.mapM keyOf = some ks := by
  cases d with
  | tup ds => exact ⟨ds, rfl, h⟩
  | _ => cases h
theorem keysOf_at {ι : Ix} {L : Addr → Prop} {H : Hp} {v : V} {d : D} {ks : List Key} (r : Rep G ι L H v d) (h : keysOf d = some ks) : ∃ b, v = .ref b ∧ H b = some (.tup (ks.map kV)) := by
  obtain ⟨ds, rfl, h⟩ := keysOf_tup h
  cases r with
  | tup q hl rs =>
    rw [keysOf_rep rs h] at q
    exact ⟨_, rfl, q⟩
theorem snd_setI {E : XK} {ι : Ix} {S : Sto} {H : Hp} {x y v : V} {dx dy dv : D} {Q : Hp → Prop} (R : Rel G ι S H) (rx : Rep G ι (Lv ι S) H x dx) (ry : Rep G ι (Lv ι S) H y dy) (rv : Rep G ι (Lv ι S) H v dv)
    (q : Post G E ι S H (fun _ ι' S' H' => Q H') (p_setI dx dy dv S)) : rSetU x y v H Q := by
  unfold p_setI at q
  split at q
  · rename_i n
    split at q
    · rename_i es hs
      obtain ⟨a, rfl, hn, vs, ha, ra⟩ := ref_cell R rx hs
      split at q
      · rename_i i
        split at q
        · rename_i j hj
          obtain ⟨x1, R1⟩ := wr_lst R hn hs (Reps.set rv j ra)
          exact .inl ⟨a, vs, i, j, rfl, ry.int_of, ha, by rw [ra.length]; exact hj, q _ _ x1 R1⟩
        · exact q.elim
      · exact q.elim
    · rename_i kds hs
      obtain ⟨a, rfl, hn, kvs, ha, he, ra⟩ := ref_cell R rx hs
      split at q
      · rename_i k hk
        split at q
        · rename_i hf
          obtain ⟨e1, e2⟩ := putD_rep k he ra rv
          obtain ⟨x1, R1⟩ := wr_cell (c := .dK (putD kds k dv)) (o := .dK (putK kvs k v)) R hn hs fun x => ⟨_, upd_same, e1, e2.mono x⟩
          refine .inr ⟨a, _, rfl, ?_, q _ _ x1 R1⟩
          rw [keyOf_rep ry hk]
          exact DPut.k ha (by rw [len_fst he]; exact fits_lt hf)
        · exact q.elim
      · exact q.elim
    · rename_i kds hs
      obtain ⟨a, rfl, hn, kvs, ha, he, ra⟩ := ref_cell R rx hs
      split at q
      · rename_i k hk
        split at q
        · rename_i hf
          obtain ⟨e1, e2⟩ := putD_rep k he ra rv
          obtain ⟨b, rfl, hb⟩ := keysOf_at ry hk
          obtain ⟨x1, R1⟩ := wr_cell (c := .dT (putD kds k dv)) (o := .dT (putK kvs k v)) R hn hs fun x => ⟨_, upd_same, e1, e2.mono x⟩
          exact .inr ⟨a, _, rfl, DPut.t ha hb (by rw [len_fst he]; exact fits_lt hf), q _ _ x1 R1⟩
        · exact q.elim
      · exact q.elim
    · exact q.elim
  · exact q.elim
def c_setI (o i v : ECode) : SCode := fun ρ S => (v ρ S).bind fun z S0 => (o ρ S0).bind fun x S1 => (i ρ S1).bind fun y S2 => (p_setI x y z S2).bind fun _ S3 => .ok (.nx ρ) S3
theorem ds_setI (F : FamH Xs G E) {o i e : Expr} {pos pos' : Pos} {co ci cv : ECode} (hv : DE Xs G E e cv) (ho : DE Xs G E o co) (hi : DE Xs G E i ci) (hs : ∀ j, swapsWithSole [.Subscript o i pos'] e pos.line (Xs j).env = pure false)
    (hw : ∀ j, swappedStores [.Subscript o i pos'] e (Xs j).env = pure none) (h1 : ∀ j, List.map (fun x => x.snd) (assignEach [.Subscript o i pos'] (Xs j).env) = [assign (.Subscript o i pos') (Xs j).env])
    (ha : ∀ j v, assign (.Subscript o i pos') (Xs j).env v = (do
      let ov ← holding [v] (eval o (Xs j).env)
      let iv ← holding [v, ov] (eval i (Xs j).env)
      standAt pos'
      holding [v, ov, iv] (setItem ov iv v)
      release [v, ov, iv] [])) : DS Xs G E (.Assign [.Subscript o i pos'] e pos) (c_setI co ci cv) := by
  obtain ⟨tv, pv, sv⟩ := hv
  obtain ⟨to, po, so⟩ := ho
  obtain ⟨ti, pi, si⟩ := hi
  refine ⟨_, fun j => ps_asg (pv j) (pg_sub (po j) (pi j) (set_any (F.hu j)) (ha j)) (hs j) (hw j) (h1 j), fun ι S H σ ρ Dn R e q => ?_⟩
  refine sv.go R e q fun dv S1 ι1 H1 v x1 R1 e1 r1 q1 => ?_
  refine so.go R1 e1 q1 fun dx S2 ι2 H2 x x2 R2 e2 r2 q2 => ?_
  refine si.go R2 e2 q2 fun dy S3 ι3 H3 y x3 R3 e3 r3 q3 => ?_
  refine snd_setI (Q := fun H' => Dn.nx σ H') R3 (r2.mono x3) r3 ((r1.mono x2).mono x3) (Post.bind q3 fun _ S4 ι4 H4 x4 R4 q4 => ?_)
  exact Post.here R4 q4 σ (e3.mono x4)
/-! ### o.f = v -/
def p_setF (c i : Nat) (x v : D) (S : Sto) : Res Unit := match x with
  | .ref n => match cellOf S n with
    | some (.ins c' fs) => if c' = c ∧ i ≤ fs.length ∧ fs.length < 1000 then .ok () (S.set n (some (.ins c (if i < fs.length then fs.set i v else fs ++ [v])))) else .stuck
    | _ => .stuck
  | _ => .stuck
theorem putF_ix : ∀ {nfs : List (Str × V)} {ns : List Str} {i : Nat} {nm : Str} {v : V}, nfs.map (·.1) = ns.take nfs.length → ns.Nodup → ns[i]? = some nm → i ≤ nfs.length →
    (putF nm v nfs).map (·.1) = ns.take (putF nm v nfs).length ∧ (putF nm v nfs).map (·.2) = if i < nfs.length then (nfs.map (·.2)).set i v else nfs.map (·.2) ++ [v]
  | [], ns, i, nm, v, e, nd, h1, hi => by
    have hi : i = 0 := by simpa using hi
    subst hi
    cases ns with
    | nil => simp at h1
    | cons a ns =>
      simp at h1
      subst h1
      simp [putF]
  | (g, x) :: r, ns, i, nm, v, e, nd, h1, hi => by
    cases ns with
    | nil => simp at h1
    | cons a ns =>
      simp only [List.map_cons, List.length_cons, List.take_succ_cons, List.cons.injEq] at e
      obtain ⟨e1, e2⟩ := e
      subst e1
      rw [List.nodup_cons] at nd
      cases i with
      | zero =>
        simp at h1
        subst h1
        rw [show putF g v ((g, x) :: r) = (g, v) :: r from by simp [putF]]
        simp [e2]
      | succ i =>
        simp only [List.getElem?_cons_succ] at h1
        have hne : g ≠ nm := fun z => nd.1 (z ▸ List.mem_of_getElem? h1)
        rw [show putF nm v ((g, x) :: r) = (g, x) :: putF nm v r from by simp [putF, hne]]
        obtain ⟨a1, a2⟩ := putF_ix (v := v) e2 nd.2 h1 (by simpa using hi)
        refine ⟨by simp [a1], ?_⟩
        rw [List.map_cons, a2]
        by_cases hl : i < r.length
        · simp [hl]
        · simp [hl]
theorem ds_fld (F : FamH Xs G E) {c i : Nat} {nm : Str} {o e : Expr} {pos pos' : Pos} {co cv : ECode} (hc : Cls G.K (G.cls c)) (hn : NoAttr G.K (G.cls c) nm) (hi : (G.fns c)[i]? = some nm) (hnd : (G.fns c).Nodup)
    (hv : DE Xs G E e cv) (ho : DE Xs G E o co) (hs : ∀ j, swapsWith e (some (.Attribute o nm pos')) pos.line (Xs j).env = pure false) :
    DS Xs G E (.Assign [.Attribute o nm pos'] e pos) (fun ρ S => (cv ρ S).bind fun z S0 => (co ρ S0).bind fun x S1 => (p_setF c i x z S1).bind fun _ S2 => .ok (.nx ρ) S2) := by
  obtain ⟨tv, pv, sv⟩ := hv
  obtain ⟨to, po, so⟩ := ho
  refine ⟨sFld G.K to tv nm, fun j => by have z := ps_fld (X := Xs j) (po j) (pv j) (hs j); rw [F.K j] at z; exact z, fun ι S H σ ρ Dn R e q => ?_⟩
  refine sv.go R e q fun dv S1 ι1 H1 v x1 R1 e1 r1 q1 => ?_
  refine so.go R1 e1 q1 fun dx S2 ι2 H2 x x2 R2 e2 r2 q2 => ?_
  unfold p_setF at q2
  split at q2
  · rename_i n
    split at q2
    · rename_i c' fs hs
      split at q2
      · rename_i h
        obtain ⟨rfl, hle, hlt⟩ := h
        obtain ⟨a, rfl, hn', dx, nfs, ha, hnm, ra⟩ := ref_cell R2 r2 hs
        have hl : nfs.length = fs.length := by
          have := ra.length
          simpa using this
        rw [← hl] at hnm hle
        obtain ⟨p1, p2⟩ := putF_ix (v := v) hnm hnd hi hle
        have rr : Reps G ι2 (Lv ι2 S2) H2 ((putF nm v nfs).map (·.2)) (if i < fs.length then fs.set i dv else fs ++ [dv]) := by
          rw [p2, hl]
          by_cases hlt : i < fs.length
          · rw [if_pos hlt, if_pos hlt]
            exact Reps.set (r1.mono x2) i ra
          · rw [if_neg hlt, if_neg hlt]
            exact ra.app (.cons (r1.mono x2) .nil)
        obtain ⟨x3, R3⟩ := wr_cell (c := .ins c' (if i < fs.length then fs.set i dv else fs ++ [dv])) (o := .ins (G.cls c') dx (putF nm v nfs)) R2 hn' hs fun x => ⟨dx, _, upd_same, by
          have hle := rr.length
          rw [List.length_map] at hle
          rw [← hle]
          exact p1, rr.mono x⟩
        have q3 : Post G (E σ) ι2 S2 H2 (PF G Dn) (.ok (.nx ρ) (S2.set n (some (.ins c' (if i < fs.length then fs.set i dv else fs ++ [dv]))))) := q2
        exact ⟨a, _, dx, nfs, rfl, ha, hc, hn, by omega, q3 _ _ x3 R3 σ (e2.mono x3)⟩
      · exact q2.elim
    · exact q2.elim
  · exact q2.elim
/-! ### a, b = x, y -/
def c_par (i j : Nat) (a b : ECode) : SCode := fun ρ S => (a ρ S).bind fun x S1 => (b ρ S1).bind fun y S2 => .ok (.nx ((ρ.set i (some x)).set j (some y))) S2
theorem ds_par (F : Fam Xs G E kk) {i j : Nat} {x y : Str} {a b : Expr} {px py pt pos : Pos} {kt k2 pt2} {ca cb : ECode} (hi : ∀ q, (Xs q).N[i]? = some x) (hj : ∀ q, (Xs q).N[j]? = some y) (hij : i ≠ j)
    (hx : ∀ q, (Xs q).env.scope.names.lookup x = some .local) (hy : ∀ q, (Xs q).env.scope.names.lookup y = some .local) (ha : DE Xs G E a ca) (hb : DE Xs G E b cb)
    (hst : ∀ q, starEach [a, b] (Xs q).env = (false, eval a (Xs q).env) :: starEach [b] (Xs q).env) (hst2 : ∀ q, starEach [b] (Xs q).env = (false, eval b (Xs q).env) :: starEach [] (Xs q).env)
    (hw : ∀ q, swappedStores [.Tuple [.Name x px, .Name y py] kt pt] (.Tuple [a, b] k2 pt2) (Xs q).env = pure (some [x, y]))
    (hs : ∀ q, swapsWithSole [.Tuple [.Name x px, .Name y py] kt pt] (.Tuple [a, b] k2 pt2) pos.line (Xs q).env = pure false) :
    DS Xs G E (.Assign [.Tuple [.Name x px, .Name y py] kt pt] (.Tuple [a, b] k2 pt2) pos) (c_par i j ca cb) := by
  obtain ⟨ta, pa, sa⟩ := ha
  obtain ⟨tb, pb, sb⟩ := hb
  refine ⟨_, fun q => ps_par (F.calm q) (F.nd q) (hi q) (hj q) hij (hx q) (hy q) (pa_cons (pa q) (pa_cons (pb q) pa_nil (hst2 q)) (hst q)) (hw q) (hs q), fun ι S H σ ρ Dn R e q => ?_⟩
  refine sa.go R e q fun d S1 ι1 H1 v x1 R1 e1 r1 q1 => ?_
  refine sb.go R1 e1 q1 fun d2 S2 ι2 H2 w x2 R2 e2 r2 q2 => ?_
  exact ⟨v, w, rfl, Post.here R2 q2 _ ((e2.set (r1.mono x2) i).set r2 j)⟩
end
end DL
set_option Elab.async false
set_option linter.all false
set_option maxRecDepth 100000
set_option maxHeartbeats 4000000
/-! DL10: positional calls, methods, class attributes, instances -/
namespace DL
open PySem PySem.Spec PyProof.Rows L2
/-- a def called with positional arguments -/
def FnP (G : Gx) (k : Nat) (f : Addr) (m : List D → Sto → Res D) : Prop :=
  ∀ (A : Around) (outer : List PySem.Env) (s : Shared) (H : Hp) (us : List Value) (vs : List V) (Q : VK) (E : XK) (ι : Ix) (S : Sto) (ds : List D), A.guards = some [] → Room k A → Env0 G.P G.w G.K G.mg G.base A outer s H →
    Vals vs us → Rel G ι S H → Reps G ι (Lv ι S) H vs ds → Post G E ι S H (PV G Q) (m ds S) → codeAny (model G.P G.w) A (.call (.ref f) ⟨us, []⟩) (CR (L2.CX G.P G.w) outer G.P G.w H s Q E) s
def argsN (n : Nat) (m : List D → Sto → Res D) : List D → Sto → Res D := fun ds S => if ds.length = n then m ds S else .stuck
section
variable {G : Gx} {k : Nat} {f : Addr} {fd : FuncData} {ps : List Str} {m : List D → Sto → Res D}
theorem FnP.mono {j : Nat} (h : FnP G j f m) (hk : j ≤ k) : FnP G k f m := fun A outer s H us vs Q E ι S ds hg hr => h A outer s H us vs Q E ι S ds hg (hr.mono hk)
theorem FnB.pos (Fn : FnB G k f fd ps m) (hb : Binds G.K fd ps []) : FnP G k f (argsN ps.length m) := fun A outer s H us vs Q E ι S ds hg hr e0 rv R rs p => by
  unfold argsN at p
  split at p
  · rename_i hl
    have KX : G.K.In s.heap := e0.mod.kin.keeps fun b o e => (e0.bs b o e).1
    have hlu : us.length = ps.length := by rw [← rv.length, rs.length, hl]
    have hbi := hb s us KX (by rw [List.append_nil]; exact hlu)
    rw [List.append_nil] at hbi
    exact Fn A outer s H _ us vs Q E ι S ds hg hr e0 hbi rv R rs hl p
  · exact p.elim
end
/-- the promise of a mirror -/
def spP (G : Gx) (m : List D → Sto → Res D) (vs : List V) (H : Hp) (Q : VK) (E : XK) : Prop := ∃ (ι : Ix) (S : Sto) (ds : List D), Rel G ι S H ∧ Reps G ι (Lv ι S) H vs ds ∧ Post G E ι S H (PV G Q) (m ds S)
section
variable {I : Type} {Xs : I → Cx} {G : Gx} {E : WK} {kk k : Nat} {f : Addr} {m : List D → Sto → Res D}
theorem runP_at (F : Fam Xs G E kk) (j : I) (Fn : FnP G k f m) {A : Around} {E : XK} {H : Hp} {s : Shared} {Q : VK} {us : List Value} {vs : List V} (hg : A.guards = some []) (hr : Room k A)
    (e0 : Env0 (Xs j).prog (Xs j).w (Xs j).K (Xs j).mg (Xs j).base A (Xs j).stack s H) (r : Vals vs us) (h : spP G m vs H Q E) :
    codeAny (model (Xs j).prog (Xs j).w) A (.call (.ref f) ⟨us, []⟩) (CR (L2.CX (Xs j).prog (Xs j).w) (Xs j).stack (Xs j).prog (Xs j).w H s Q E) s := by
  obtain ⟨ι, S, ds, R, rs, q⟩ := h
  rw [F.P j, F.w j] at e0 ⊢
  rw [F.K j, F.mg j, F.base j] at e0
  exact Fn A _ s H us vs Q E ι S ds hg hr e0 r R rs q
theorem run_P (F : Fam Xs G E kk) (j : I) (Fn : FnP G k f m) (hk : k ≤ kk) {pins : List (Addr × Obj)} {σ : L2.St} {H : Hp} {s : Shared} {Q : VK} {us : List Value} {vs : List V} (Iv : Inv (Xs j) pins σ H s)
    (r : Vals vs us) (h : spP G m vs H Q (E σ)) : wpAny (model (Xs j).prog (Xs j).w) (Xs j).A (call (.ref f) us) (EP (Xs j) pins σ Q) (Xs j).xe s := by
  refine wpAny_call (codeAny_mono (runP_at F j Fn (F.gd j) ((F.room j).mono hk) Iv.env0 r h) fun r s' hq => ?_)
  cases r with
  | error e => exact F.pass j pins σ H s e s' Iv hq
  | ok fl =>
    cases fl with
    | ret u => exact Iv.after hq
    | next => exact hq.elim
    | brk => exact hq.elim
    | cont => exact hq.elim
theorem snd_P {t : TA} {a : ACode} (sa : SndA G E t a) : Snd G E (fun σ H Q => t σ H fun vs H1 => spP G m vs H1 Q (E σ)) (c_cb m a) := fun ι S H σ ρ Q R e q =>
  sa.go R e q fun ds S1 ι1 H1 vs x1 R1 e1 r1 q1 => ⟨ι1, S1, ds, R1, r1, q1⟩
/-- x(e, ..) -/
theorem de_callP (F : Fam Xs G E kk) (Fn : FnP G k f m) (hk : k ≤ kk) {x : Str} {p pos : Pos} {e : Expr} {es : List Expr} {a : ACode} (ha : DA Xs G E (e :: es) a) (hg : ∀ j, Gl (Xs j) x) (hm : G.mg x = some (.ref f)) (hkp : PySem.W.keepIn G.K (.ref f) = true)
    (hdb : (x == ("__debug__" : Str)) = false) (he : ∀ j, starEach (e :: es) (Xs j).env = (false, eval e (Xs j).env) :: starEach es (Xs j).env) (hpl : ∀ j, (backTo pos (starEach es (Xs j).env)).any (·.1) = false) :
    DE Xs G E (.Call (.Name x p) (e :: es) [] pos) (c_cb m a) := by
  obtain ⟨t, pa, sa⟩ := ha
  refine ⟨_, fun j => ⟨fun pins s σ H Q Iv h => ?_⟩, snd_P sa⟩
  refine wpAny_Call_Name_kw (ld_glob Iv (hg j) (by rw [F.mg j]; exact hm) ?_ hdb)
  exact PySem.W.callWith_K (h₀ := (Xs j).base) Iv.ok.mod.kin (by rw [F.K j]; exact hkp) (thn ((pa j).run pos pins s σ H _ Iv h) fun us s1 ⟨vs, H1, I1, r, q⟩ => ⟨I1.kIn, run_P F j Fn hk I1 r q⟩) (he j) (hpl j)
/-- *e among arguments -/
def c_star (a : ECode) (r : ACode) : ACode := fun ρ S => (a ρ S).bind fun x S1 => match itemsOf x S1 with
  | some ds => (r ρ S1).bind fun es S2 => .ok (ds ++ es) S2
  | none => .stuck
/-! ### methods of an instance -/
def c_methP (c : Nat) (m : List D → Sto → Res D) (o : ECode) (a : ACode) : ECode := fun ρ S => (o ρ S).bind fun x S1 => if clsOf x S1 = some c then (a ρ S1).bind fun ds S2 => m (x :: ds) S2 else .stuck
/-! ### what is read off a class -/
/-- a name that stands for a class or a def -/
theorem de_con (F : FamH Xs G E) {x : Str} {a : Addr} {pos : Pos} (hg : ∀ j, Gl (Xs j) x) (hm : G.mg x = some (.ref a)) (hd : (x == ("__debug__" : Str)) = false) : DE Xs G E (.Name x pos) (c_d (.con a)) :=
  de_glob F hg hm (show RelV (.ref a) (.ref a) from rfl) (fun _ _ _ => .con a) hd
theorem Rep.con_of {ι : Ix} {L : Addr → Prop} {H : Hp} {v : V} {a : Addr} (r : Rep G ι L H v (.con a)) : v = .ref a := by
  cases r
  rfl
def isCon (a : Addr) : D → Bool
  | .con b => decide (b = a)
  | _ => false
theorem isCon_eq {a : Addr} {d : D} (h : isCon a d = true) : d = .con a := by
  cases d with
  | con b =>
    obtain rfl : b = a := of_decide_eq_true h
    rfl
  | _ => cases h
def c_cval (C : Addr) (d : D) (o : ECode) : ECode := fun ρ S => (o ρ S).bind fun x S1 => if isCon C x = true then .ok d S1 else .stuck
theorem de_cval (F : FamH Xs G E) {C : Addr} {mc : Value} {nm : Str} {v : V} {u : Value} {d : D} {o : Expr} {pos : Pos} {co : ECode} (hr : ClX.CRead G.K C mc) (hv : ClX.CVal G.K C mc nm v u) (hd : ∀ ι L H, Rep G ι L H v d) (ho : DE Xs G E o co)
    (hb : ∀ j, attributeBase o nm (Xs j).env (eval o (Xs j).env) = eval o (Xs j).env) : DE Xs G E (.Attribute o nm pos) (c_cval C d co) := by
  obtain ⟨to, po, so⟩ := ho
  refine ⟨ClX.tCVal G.K to nm, fun j => by have z := ClX.pe_cval (X := Xs j) (pos := pos) (po j) (hb j); rw [F.K j] at z; exact z, fun ι S H σ ρ Q R e q => ?_⟩
  refine so.go R e q fun x S1 ι1 H1 w x1 R1 e1 r1 q1 => ?_
  by_cases h : isCon C x = true
  · rw [if_pos h] at q1
    rw [isCon_eq h] at r1
    exact ⟨C, mc, v, u, r1.con_of, hr, hv, Post.here R1 q1 _ (hd _ _ _)⟩
  · rw [if_neg h] at q1
    exact q1.elim
/-- C.m(..), m a staticmethod -/
structure SMet (K : PySem.W.Frag) (C : Addr) (mc : Value) (m : Str) (p g : Addr) : Prop where
  at_ : PySem.W.findCls K (.ref C) mc m = some (.get (.builtin "staticmethod.__get__") (.ref p) .none (.ref C))
  rc : ∃ rest, PySem.W.recIn K p "staticmethod" = some (.ref g :: rest)
  kp : PySem.W.keepIn K (.ref g) = true
def c_smeth (C : Addr) (m : List D → Sto → Res D) (o : ECode) (a : ACode) : ECode := fun ρ S => (o ρ S).bind fun x S1 => if isCon C x = true then (a ρ S1).bind m else .stuck
theorem de_smeth (F : Fam Xs G E kk) (Fn : FnP G k f m) (hk : k ≤ kk) {C p : Addr} {mc : Value} {nm : Str} {o e : Expr} {es : List Expr} {apos pos : Pos} {pl : I → Sem Bool} {co : ECode} {a : ACode} (hr : ClX.CRead G.K C mc) (hm : SMet G.K C mc nm p f)
    (ho : DE Xs G E o co) (ha : DA Xs G E (e :: es) a) (hst : ∀ j, starEach (e :: es) (Xs j).env = (false, eval e (Xs j).env) :: starEach es (Xs j).env) (hpl : ∀ j, (backTo pos (starEach es (Xs j).env)).any (·.1) = false)
    (ht : ∀ j, eval (.Call (.Attribute o nm apos) (e :: es) [] pos) (Xs j).env = (do
      let ov ← eval o (Xs j).env
      standAt apos.atName
      let (f, first) ← holding [ov] (getMethod ov nm (pl j))
      callWith pos f first (backTo pos (starEach (e :: es) (Xs j).env)) (backToKw pos (keywordEach [] (Xs j).env)))) :
    DE Xs G E (.Call (.Attribute o nm apos) (e :: es) [] pos) (c_smeth C m co a) := by
  obtain ⟨to, po, so⟩ := ho
  obtain ⟨t, pa, sa⟩ := ha
  refine ⟨fun σ H Q => to σ H fun x H1 => x = .ref C ∧ t σ H1 fun vs H2 => spP G m vs H2 Q (E σ), fun j => ⟨fun pins s σ H Q Iv h => ?_⟩, fun ι S H σ ρ Q R e q => ?_⟩
  · refine PySem.W.methodCall_KW (pl := pl j) (thn ((po j).run pins s σ H _ Iv h) fun u s1 ⟨x, H1, I1, rx, ex, q⟩ => ?_) (ht j)
    subst ex
    obtain rfl : u = Value.ref C := rx
    obtain ⟨rest, hp⟩ := hm.rc
    have KX := I1.kIn
    rw [F.K j] at KX
    refine PySem.W.method_cls KX hr.ga (PySem.W.cls_bind KX hr.rd hm.at_ (wpAny_call (PySem.W.sm_get (s := { s1 with toks := s1.toks + 1 }) KX hp (PySem.W.handed_on rfl ?_))))
    have I2 := I1.tok (s1.toks + 1)
    exact PySem.W.callWith_K (first := []) (h₀ := (Xs j).base) Iv.ok.mod.kin (by rw [F.K j]; exact hm.kp) (thn ((pa j).run pos pins { s1 with toks := s1.toks + 1 } σ H1 _ I2 q) fun us s2 ⟨vs, H2, I3, r, q2⟩ => ⟨I3.kIn, run_P F j Fn hk I3 r q2⟩) (hst j) (hpl j)
  · refine so.go R e q fun d S1 ι1 H1 v x1 R1 e1 r1 q1 => ?_
    by_cases h : isCon C d = true
    · rw [if_pos h] at q1
      rw [isCon_eq h] at r1
      refine ⟨r1.con_of, sa.go R1 e1 q1 fun ds S2 ι2 H2 vs x2 R2 e2 r2 q2 => ?_⟩
      exact ⟨ι2, S2, ds, R2, r2, q2⟩
    · rw [if_neg h] at q1
      exact q1.elim
/-! ### a new instance -/
/-- b: it will be changed -/
noncomputable def p_make (b : Bool) (c : Nat) (m : List D → Sto → Res D) (ds : List D) (S : Sto) : Res D := (m (.ref S.length :: ds) (S ++ [some (.ins c [])])).bind fun r S' => match r with
  | .non => if b = true then .ok (.ref S.length) S' else match cellOf S' S.length with
    | some (.ins c' fs) => if c' = c then fin S (.obj c fs) (S'.set S.length none) else .stuck
    | _ => .stuck
  | _ => .stuck
theorem made_rel {ι : Ix} {S : Sto} {H : Hp} {c : Nat} {x dx : Addr} (R : Rel G ι S H) (hx : H x = none) (hdx : H dx = none) (hne : dx ≠ x) :
    Ext ι S H (ι.snoc x) (S ++ [some (.ins c [])]) (upd (upd H dx (.own x)) x (.ins (G.cls c) dx [])) ∧ Rel G (ι.snoc x) (S ++ [some (.ins c [])]) (upd (upd H dx (.own x)) x (.ins (G.cls c) dx [])) := by
  have x1 : Ext ι S H ι S (upd H dx (.own x)) := Ext.same (keepNew hdx)
  have R1 : Rel G ι S (upd H dx (.own x)) := R.same (keepNew hdx)
  have hx1 : upd H dx (.own x) x = none := by rw [upd_ne (Ne.symm hne)]; exact hx
  have x2 : Ext ι S (upd H dx (.own x)) (ι.snoc x) (S ++ [some (.ins c [])]) (upd (upd H dx (.own x)) x (.ins (G.cls c) dx [])) := Ext.new R1 hx1
  exact ⟨x1.trans x2, R1.new hx1 ⟨dx, [], upd_same, by simp, .nil⟩⟩
theorem spP_make (b : Bool) {ι : Ix} {S : Sto} {H : Hp} {c : Nat} {vs : List V} {ds : List D} {Q : VK} {E : XK} (R : Rel G ι S H) (r : Reps G ι (Lv ι S) H vs ds) (q : Post G E ι S H (PV G Q) (p_make b c m ds S)) (x dx : Addr) (hx : H x = none) (hdx : H dx = none) (hne : dx ≠ x) :
    spP G m (.ref x :: vs) (upd (upd H dx (.own x)) x (.ins (G.cls c) dx [])) (fun v H2 => v = .non ∧ Q (.ref x) H2) E := by
  obtain ⟨x1, R1⟩ := made_rel (c := c) R hx hdx hne
  have hself : (ι.snoc x).l[S.length]? = some x := by
    show (ι.l ++ [x])[S.length]? = some x
    rw [← R.len]
    simp
  refine ⟨ι.snoc x, S ++ [some (.ins c [])], .ref S.length :: ds, R1, .cons (.ref hself) (r.mono x1), ?_⟩
  unfold p_make at q
  cases hm : m (.ref S.length :: ds) (S ++ [some (.ins c [])]) with
  | ex k d S2 =>
    rw [hm] at q
    exact fun ι2 H2 dd v y R2 => q ι2 H2 dd v (x1.trans y) R2
  | stuck => rw [hm] at q; exact q
  | ok d S2 =>
    rw [hm] at q
    intro ι2 H2 y R2 v rv
    cases d with
    | non =>
      refine ⟨rv.non_of, ?_⟩
      have hix := y.idx hself
      cases b with
      | true => exact q ι2 H2 (x1.trans y) R2 _ (.ref hix)
      | false =>
        have q : Post G E ι S H (PV G Q) (match cellOf S2 S.length with
          | some (.ins c' fs) => if c' = c then fin S (.obj c fs) (S2.set S.length none) else .stuck
          | _ => .stuck) := q
        split at q
        · rename_i c' fs hc
          split at q
          · rename_i ec
            subst ec
            obtain ⟨a, h1, h2⟩ := R2.cell _ _ (cellOf_eq hc)
            rw [hix] at h1
            cases h1
            obtain ⟨dx', nfs, h3, h4, h5⟩ := h2
            have x3 : Ext ι2 S2 H2 ι2 (S2.set S.length none) H2 := Ext.kill
            have R3 : Rel G ι2 (S2.set S.length none) H2 := R2.kill
            exact fin_ok R q ι2 H2 ((x1.trans y).trans x3) R3 _ (.obj h3 (R2.killed hix) h4 (h5.mono x3))
          · exact q.elim
        · exact q.elim
    | _ => exact q.elim
theorem de_make (b : Bool) (F : Fam Xs G E kk) (Fn : FnP G k f m) (hk : k + 1 ≤ kk) {c : Nat} {x : Str} {p pos : Pos} {e : Expr} {es : List Expr} {a : ACode} (M : Mk G.K (G.cls c) f) (ha : DA Xs G E (e :: es) a) (hg : ∀ j, Gl (Xs j) x) (hm : G.mg x = some (.ref (G.cls c)))
    (hdb : (x == ("__debug__" : Str)) = false) (he : ∀ j, starEach (e :: es) (Xs j).env = (false, eval e (Xs j).env) :: starEach es (Xs j).env) (hpl : ∀ j, (backTo pos (starEach es (Xs j).env)).any (·.1) = false) :
    DE Xs G E (.Call (.Name x p) (e :: es) [] pos) (c_cb (p_make b c m) a) := by
  obtain ⟨t, pa, sa⟩ := ha
  refine ⟨fun σ H Q => t σ H fun vs H1 => ∀ x dx, H1 x = Option.none → H1 dx = Option.none → dx ≠ x → spP G m (V.ref x :: vs) (upd (upd H1 dx (.own x)) x (.ins (G.cls c) dx [])) (fun v H2 => v = .non ∧ Q (.ref x) H2) (E σ), fun j => ⟨fun pins s σ H Q Iv h => ?_⟩, fun ι S H σ ρ Q R e q => ?_⟩
  · refine wpAny_Call_Name_kw (ld_glob Iv (hg j) (by rw [F.mg j]; exact hm) ?_ hdb)
    refine PySem.W.callWith_K (h₀ := (Xs j).base) Iv.ok.mod.kin (by rw [F.K j]; exact M.kp) (thn ((pa j).run pos pins s σ H _ Iv h) fun us s1 ⟨vs, H1, I1, r, q⟩ => ⟨I1.kIn, ?_⟩) (he j) (hpl j)
    have hq := q (s1.heap.objs.size + 1) s1.heap.objs.size (I1.hok.fresh (Nat.le_succ _)) (I1.hok.fresh (Nat.le_refl _)) (Nat.ne_of_lt (Nat.lt_succ_self _))
    have I2 := Inv.made (C := G.cls c) I1
    have r2 : Vals (V.ref (s1.heap.objs.size + 1) :: vs) (Value.ref (s1.heap.objs.size + 1) :: us) := .cons rfl r
    have M' : Mk (Xs j).K (G.cls c) f := by rw [F.K j]; exact M
    refine wpAny_call (make_map (f := f) I1.kIn M'.makes M'.init (beq_iff_eq.mp M'.fn) (codeAny_mono (runP_at F j Fn (show ((Xs j).A.under _).guards = some [] from F.gd j) (((F.room j).mono hk).make (G.cls c) us []) (I2.env0.make (G.cls c) us []) r2 hq) fun r s' hq' => ?_))
    cases r with
    | error e => exact F.pass j pins σ _ _ e s' I2 hq'
    | ok fl =>
      cases fl with
      | ret u =>
        obtain ⟨v, H', I3, rv, ev, q3⟩ := I2.after hq'
        subst ev
        exact ⟨rv, ⟨V.ref (s1.heap.objs.size + 1), H', I3, rfl, q3⟩⟩
      | next => exact False.elim hq'
      | brk => exact False.elim hq'
      | cont => exact False.elim hq'
  · exact sa.go R e q fun ds S1 ι1 H1 vs x1 R1 e1 r1 q1 => spP_make b R1 r1 q1
end
end DL
set_option Elab.async false
set_option linter.all false
set_option maxRecDepth 100000
set_option maxHeartbeats 4000000
/-! DLZ: zip of lists and tuples, also strict=True -/
namespace DL
open PySem PySem.Spec PyProof.Rows L2
def ItAt : Bool → Heap → Addr → Addr → Nat → Prop
  | true, h, it, l, k => h.IsTupleIter it l k
  | false, h, it, l, k => h.IsListIter it l k
def SqAt : Bool → Heap → Addr → Array Value → Prop
  | true, h, l, xs => h.IsTuple l xs
  | false, h, l, xs => h.IsList l xs
theorem ItAt.at {t : Bool} {h h' : Heap} {it l : Addr} {k : Nat} (i : ItAt t h it l k) (e : ∀ o, h.get? it = some o → h'.get? it = some o) : ItAt t h' it l k := by
  cases t with
  | true => exact Heap.IsTupleIter.at i e
  | false => exact Heap.IsListIter.at i e
theorem SqAt.at {t : Bool} {h h' : Heap} {l : Addr} {xs : Array Value} (i : SqAt t h l xs) (e : ∀ o, h.get? l = some o → h'.get? l = some o) : SqAt t h' l xs := by
  cases t with
  | true => exact Heap.IsTuple.at i e
  | false => exact Heap.IsList.at i e
theorem ItAt.obj {t : Bool} {h : Heap} {it l : Addr} {k : Nat} (i : ItAt t h it l k) : ∃ o, h.get? it = some o ∧ o.data = .fields #[.ref l, rawInt k] := by
  cases t with
  | true => obtain ⟨o, a, b, c⟩ := i; exact ⟨o, a, c⟩
  | false => obtain ⟨o, a, b, c⟩ := i; exact ⟨o, a, c⟩
theorem ItAt.lt {t : Bool} {h : Heap} {it l : Addr} {k : Nat} (i : ItAt t h it l k) : it < h.objs.size := by
  obtain ⟨o, e, _⟩ := i.obj
  exact Heap.lt_size e
theorem ItAt.ext {t : Bool} {h h' : Heap} {it l x : Addr} {k : Nat} (i : ItAt t h it l k) (e : Heap.ExtBut x h h') (n : it ≠ x) : ItAt t h' it l k := i.at fun o q => e _ _ n q
theorem SqAt.ext {t : Bool} {h h' : Heap} {l x : Addr} {xs : Array Value} (i : SqAt t h l xs) (e : Heap.ExtBut x h h') (n : l ≠ x) : SqAt t h' l xs := i.at fun o q => e _ _ n q
theorem SqAt.obj {t : Bool} {h : Heap} {l : Addr} {xs : Array Value} (i : SqAt t h l xs) : ∃ o, h.get? l = some o := by
  cases t with
  | true => obtain ⟨o, a, b, c⟩ := i; exact ⟨o, a⟩
  | false => obtain ⟨o, a, b, c⟩ := i; exact ⟨o, a⟩
theorem SqAt.lt {t : Bool} {h : Heap} {l : Addr} {xs : Array Value} (i : SqAt t h l xs) : l < h.objs.size := by
  obtain ⟨o, e⟩ := i.obj
  exact Heap.lt_size e
section
variable {prog : Program} {w : World} {A : Around} {E : Value → Shared → Prop} {s : Shared}
theorem next_item (t : Bool) {it l : Addr} {i : Nat} {items} {x : Value} {Q : Value → Shared → Prop} (hit : ItAt t s.heap it l i) (hl : SqAt t s.heap l items) (hx : items[i]? = some x)
    (hQ : ∀ h', ItAt t h' it l (i + 1) → Heap.SameBut it s.heap h' → Q x { s with heap := h' }) : wpAny (model prog w) A (Builtin.SmallTypes.nextOf (.ref it)) Q E s := by
  cases t with
  | true => exact RZ.nextOf_tuple_item hit hl hx hQ
  | false => exact wpAny_nextOf_list_item hit hl hx hQ
theorem next_end (t : Bool) {it l : Addr} {i : Nat} {items} {Q : Value → Shared → Prop} (hh : A.handled = none) (hit : ItAt t s.heap it l i) (hl : SqAt t s.heap l items) (hx : items[i]? = none)
    (hE : ∀ h' e, Heap.ExtBut it s.heap h' → (∃ o, h'.get? e = some o ∧ o.cls = .type "StopIteration") → E (.ref e) { s with heap := h' }) : wpAny (model prog w) A (Builtin.SmallTypes.nextOf (.ref it)) Q E s := by
  cases t with
  | true => exact RZ.nextOf_tuple_end hh hit hl hx hE
  | false => exact wpAny_nextOf_list_end hh hit hl hx hE
/-- a new iterator -/
def itO : Bool → Addr → Obj
  | true, l => { cls := .type "tuple_iterator", data := .fields #[.ref l, .int 0 0] }
  | false, l => { cls := .type "list_iterator", data := .fields #[.ref l, .int 0 0] }
theorem pyIter_seq {t : Bool} {l : Addr} {xs : Array Value} {Q : Value → Shared → Prop} (hl : SqAt t s.heap l xs) (h : Q (.ref s.heap.objs.size) { s with heap := s.heap.push (itO t l) }) : wpAny (model prog w) A (pyIter (.ref l)) Q E s := by
  cases t with
  | true => exact wpAny_pyIter_tuple hl h
  | false => exact wpAny_pyIter_list hl h
end
/-! ### the walk -/
def SqV (t : Bool) (K : PySem.W.Frag) (H : Hp) (a : Addr) (xs : List V) : Prop := match t with
  | true => SqT K H a xs
  | false => SqL K H a xs
theorem sq_at {X : Cx} {t : Bool} {pins : List (Addr × Obj)} {σ : L2.St} {H : Hp} {s : Shared} {a : Addr} {xs : List V} (I : Inv X pins σ H s) (h : SqV t X.K H a xs) : ∃ its : List Value, Vals xs its ∧ SqAt t s.heap a its.toArray ∧ xs.length ≤ sizeLine := by
  cases t with
  | true =>
    obtain ⟨its, r, p, z⟩ := I.tuple h
    exact ⟨its, r, p, z⟩
  | false =>
    obtain ⟨its, r, p, z⟩ := I.list h
    exact ⟨its, r, p.isList, z⟩
theorem sq_inj {X : Cx} {t : Bool} {pins : List (Addr × Obj)} {σ : L2.St} {H : Hp} {s : Shared} {a : Addr} {xs ys : List V} (I : Inv X pins σ H s) (h : SqV t X.K H a xs) (h' : SqV t X.K H a ys) : xs = ys := by
  cases t with
  | true => exact I.tuple_inj h h'
  | false => exact I.list_inj h h'
end DL
set_option Elab.async false
set_option linter.all false
set_option maxRecDepth 100000
set_option maxHeartbeats 4000000
/-! DLS: sorted(list, tuple or dict) of data -/
namespace DL
open PySem PySem.Spec PyProof.Rows L2 PySem.W
/-! ### by values -/
end DL
set_option Elab.async false
set_option linter.all false
set_option maxRecDepth 100000
set_option maxHeartbeats 4000000
/-! DL11: sorted, isinstance, repr; what is walked; dict displays -/
namespace DL
open PySem PySem.Spec PyProof.Rows L2 PySem.W
section
variable {I : Type} {Xs : I → Cx} {G : Gx} {E : WK} {kk : Nat}
/-! ### sorted -/
theorem notLv {ι : Ix} {S : Sto} {H : Hp} {a : Addr} {vs : List V} (R : Rel G ι S H) (h : H a = some (.tup vs)) : ¬ Lv ι S a := by
  rintro (⟨n, c, h1, h2⟩ | z)
  · obtain ⟨b, h3, h4⟩ := R.cell n c h2
    rw [h1] at h3
    cases h3
    cases c with
    | lst ds => obtain ⟨ws, e, _⟩ := h4; rw [h] at e; cases e
    | dK ds => obtain ⟨ws, e, _⟩ := h4; rw [h] at e; cases e
    | dT ds => obtain ⟨ws, e, _⟩ := h4; rw [h] at e; cases e
    | ins c fs => obtain ⟨dx, ws, e, _⟩ := h4; rw [h] at e; cases e
  · obtain ⟨⟨xs, e, n⟩, _⟩ := R.ztr a z
    rw [h] at e
    cases e
    exact n _ rfl
theorem Reps.py {ι : Ix} {S : Sto} {H : Hp} (R : Rel G ι S H) {vs : List V} {ds : List D} {ps : List PyData} (e : pyOfL S ds = some ps) (r : Reps G ι (Lv ι S) H vs ds) : DpAll G.K H vs ps := (pair_py R (sizeOf ds)).2 vs ds ps (Nat.le_refl _) e r
/-! ### isinstance(x, T), T a built-in type -/
def tyD (d : D) (S : Sto) : Option String := match d with
  | .non => some "NoneType"
  | .bl _ => some "bool"
  | .int _ => some "int"
  | .str _ => some "str"
  | .tup _ => some "tuple"
  | .wtp _ => some "tuple"
  | .lst _ => some "list"
  | .scr _ => some "list"
  | .dK _ => some "dict"
  | .dT _ => some "dict"
  | .ref n => match cellOf S n with
    | some (.lst _) => some "list"
    | some (.dK _) => some "dict"
    | some (.dT _) => some "dict"
    | _ => none
  | _ => none
theorem tyD_at {ι : Ix} {S : Sto} {H : Hp} {v : V} {d : D} {t : String} (R : Rel G ι S H) (r : Rep G ι (Lv ι S) H v d) (h : tyD d S = some t) : TyX G.K H v (.type t) := by
  cases r with
  | non => cases h; exact .base .non
  | bl b => cases h; exact .base (.bl b)
  | int i => cases h; exact .base (.int i)
  | str x => cases h; exact .base (.str x)
  | tup q _ _ => cases h; exact .base (.tup q)
  | wtp q _ =>
    cases h
    obtain ⟨o, its, n, h1, h2, _⟩ := q
    exact .kTuple h1 h2
  | lst q _ _ => cases h; exact .base (.lst q)
  | scr q _ =>
    cases h
    rcases q with ⟨q | ⟨o, q⟩, _⟩ | ⟨o, its, n, h1, h2, _⟩
    · exact .base (.lst q)
    · exact .base (.frz q)
    · exact .kList h1 h2
  | dK q _ _ _ => cases h; exact .base (.dK q)
  | dT q _ _ _ => cases h; exact .base (.dT q)
  | ref q =>
    rename_i a n
    have h : (match cellOf S n with
      | some (.lst _) => some "list"
      | some (.dK _) => some "dict"
      | some (.dT _) => some "dict"
      | _ => none) = some t := h
    split at h
    · rename_i hs
      obtain ⟨b, e, _, vs, hb, _⟩ := ref_cell R (.ref q) hs
      cases e
      cases h
      exact .base (.lst hb)
    · rename_i hs
      obtain ⟨b, e, _, vs, hb, _⟩ := ref_cell R (.ref q) hs
      cases e
      cases h
      exact .base (.dK hb)
    · rename_i hs
      obtain ⟨b, e, _, vs, hb, _⟩ := ref_cell R (.ref q) hs
      cases e
      cases h
      exact .base (.dT hb)
    · cases h
  | _ => cases h
def tys : List String := ["NoneType", "bool", "int", "str", "tuple", "list", "dict"]
def isiB (a b : String) : Bool := a == b || (a == "bool" && b == "int")
theorem isi_tab : ∀ a ∈ tys, ∀ b ∈ tys, kitB a b = some (isiB a b) := by decide +kernel
theorem tyD_mem {d : D} {S : Sto} {t : String} (h : tyD d S = some t) : t ∈ tys := by
  unfold tyD at h
  split at h
  all_goals first | (cases h; decide) | (cases h; done) | skip
  split at h
  all_goals first | (cases h; decide) | (cases h; done)
def p_isi (ds : List D) (S : Sto) : Res D := match ds with
  | [d, .ty t] => match tyD d S with
    | some u => if t ∈ tys then .ok (.bl (isiB u t)) S else .stuck
    | none => .stuck
  | _ => .stuck
theorem Rep.ty_of {ι : Ix} {L : Addr → Prop} {H : Hp} {v : V} {t : String} (r : Rep G ι L H v (.ty t)) : v = .ty t := by
  cases r
  rfl
theorem snd_isi : SndC G (rIsi G.K) p_isi := fun E ι S H xs ds Q R r q => by
  unfold p_isi at q
  split at q
  · rename_i d t
    obtain ⟨v, w, rfl, rv, rw'⟩ := r.two
    split at q
    · rename_i u hu
      split at q
      · rename_i ht
        rw [rw'.ty_of]
        exact ⟨v, .ty t, _, .type t, isiB u t, rfl, .ty t, tyD_at R rv hu, kit_ty (isi_tab u (tyD_mem hu) t ht), Post.here R q _ (.bl _)⟩
      · exact q.elim
    · exact q.elim
  · exact q.elim
/-- the name of a built-in type -/
theorem de_ty (F : FamH Xs G E) {x : Str} {T : String} {pos : Pos} (hg : ∀ j, Gl (Xs j) x) (hm : G.mg x = none) (hv : bootBuiltins x = some (.type T)) (hn : x ≠ "__name__") (hdb : (x == ("__debug__" : Str)) = false) : DE Xs G E (.Name x pos) (c_d (.ty T)) :=
  ⟨_, fun j => ⟨fun pins s σ H Q I h => ld_blt I (hg j) (by rw [F.mg j]; exact hm) hv ⟨.ty T, H, I, rfl, h⟩ hn hdb⟩, snd_c fun _ _ _ => .ty T⟩
/-! ### repr of data -/
def textOf (p : PyData) : Option Str := match p with
  | .int i => if i.natAbs.log2 < 1920 then some (toString i : String) else none
  | .list xs => if (PyData.list xs).showable = true ∧ (PyData.list xs).hasDict = false ∧ (PyData.list xs).depth ≤ 60 ∧ (PyData.list xs).shown.length ≤ 1000000 then some (PyData.list xs).shown else none
  | .tuple xs => if (PyData.tuple xs).showable = true ∧ (PyData.tuple xs).hasDict = false ∧ (PyData.tuple xs).depth ≤ 60 ∧ (PyData.tuple xs).shown.length ≤ 1000000 then some (PyData.tuple xs).shown else none
  | _ => none
def p_repr (ds : List D) (S : Sto) : Res D := match ds with
  | [d] => match (pyOf S d).bind textOf with
    | some x => .ok (.str x) S
    | none => .stuck
  | _ => .stuck
def rRepr (K : PySem.W.Frag) : List V → Hp → VK → Prop := fun xs H Q => (∃ i, xs = [.int i] ∧ i.natAbs.log2 < 1920 ∧ Q (.str (toString i)) H) ∨ ∃ v p, xs = [v] ∧ Dp K H v p ∧ ((∃ ys, p = .list ys) ∨ ∃ ys, p = .tuple ys) ∧ p.showable = true ∧ p.hasDict = false ∧ p.depth ≤ 60 ∧ p.shown.length ≤ 1000000 ∧ Q (.str p.shown) H
theorem call_repr {X : Cx} (hg : X.A.guards = some []) (hu : X.A.units + 64 < cLine) : CallR X (.builtin "repr") (rRepr X.K) := by
  intro pins s σ H xs us Q I r h
  rcases h with h | ⟨v, p, rfl, hd, hk, h1, h2, h3, h4, q⟩
  · exact SkE.call_repr_int pins s σ H xs us Q I r h
  · obtain ⟨u, rfl, ru⟩ := r.one
    obtain ⟨as, rd⟩ := Dp.reads I p v u hd ru
    obtain ⟨a, rfl⟩ : ∃ a, u = .ref a := by
      rcases hk with ⟨ys, rfl⟩ | ⟨ys, rfl⟩ <;> (cases rd; exact ⟨_, rfl⟩)
    refine PySem.repr_of_reads' rd h1 (PyData.noDict_hsm h2) hg (by omega) (fun _ _ e => e) (fun h' t tk hk => ?_) (Nat.le_trans h4 (by rw [sizeLine_eq]; decide))
    exact ⟨.str p.shown, H, I.kept (t' := tk) hk, ⟨t, rfl⟩, q⟩
theorem snd_repr : SndC G (rRepr G.K) p_repr := fun E ι S H xs ds Q R r q => by
  unfold p_repr at q
  split at q
  · rename_i d
    obtain ⟨v, rfl, rv⟩ := r.one
    cases h1 : pyOf S d with
    | none => rw [h1] at q; exact q.elim
    | some p =>
      rw [h1] at q
      have hd := rv.py R h1
      have q : Post G E ι S H (PV G Q) (match textOf p with
        | some x => .ok (.str x) S
        | none => .stuck) := q
      cases p with
      | int i =>
        unfold textOf at q
        by_cases hi : i.natAbs.log2 < 1920
        · simp only [if_pos hi] at q
          have e : v = .int i := by cases hd; rfl
          exact .inl ⟨i, by rw [e], hi, Post.here R q _ (.str _)⟩
        · simp only [if_neg hi] at q
          exact q.elim
      | list ys =>
        unfold textOf at q
        by_cases hc : (PyData.list ys).showable = true ∧ (PyData.list ys).hasDict = false ∧ (PyData.list ys).depth ≤ 60 ∧ (PyData.list ys).shown.length ≤ 1000000
        · simp only [if_pos hc] at q
          exact .inr ⟨v, _, rfl, hd, .inl ⟨ys, rfl⟩, hc.1, hc.2.1, hc.2.2.1, hc.2.2.2, Post.here R q _ (.str _)⟩
        · simp only [if_neg hc] at q
          exact q.elim
      | tuple ys =>
        unfold textOf at q
        by_cases hc : (PyData.tuple ys).showable = true ∧ (PyData.tuple ys).hasDict = false ∧ (PyData.tuple ys).depth ≤ 60 ∧ (PyData.tuple ys).shown.length ≤ 1000000
        · simp only [if_pos hc] at q
          exact .inr ⟨v, _, rfl, hd, .inr ⟨ys, rfl⟩, hc.1, hc.2.1, hc.2.2.1, hc.2.2.2, Post.here R q _ (.str _)⟩
        · simp only [if_neg hc] at q
          exact q.elim
      | _ => exact q.elim
  · exact q.elim
end
end DL
set_option Elab.async false
set_option linter.all false
set_option maxRecDepth 100000
set_option maxHeartbeats 4000000
/-! DLE: enumerate of lists and tuples (the lines of PyProof.EnumIter and HandS.Iter, turned to both) -/
namespace DL
open PySem PySem.Spec PyProof.Rows L2
section
variable {prog : Program} {w : World} {A : Around} {E : Value → Shared → Prop} {s : Shared}
theorem enum_item (tt : Bool) {e it l : Addr} {i : Nat} {items : Array Value} {x old : Value} {Q : Value → Shared → Prop}
    (he : IsEnum s.heap e it i old) (hit : ItAt tt s.heap it l i) (hl : SqAt tt s.heap l items) (hx : items[i]? = some x) (hne : e ≠ it)
    (hQ : ∀ h', IsEnumOut h' e it ((i : Int) + 1) x s.heap.objs.size → ItAt tt h' it l (i + 1) →
      h'.get? s.heap.objs.size = some { cls := .type "tuple", data := .seq #[.int i s.toks, x] } → h'.objs.size = s.heap.objs.size + 1 →
      (∀ b o, b ≠ e → b ≠ it → s.heap.get? b = some o → h'.get? b = some o) → Q (.ref s.heap.objs.size) { s with heap := h', toks := s.toks + 1 }) :
    wpAny (model prog w) A (Builtin.«enumerate.__next__» ⟨[.ref e], []⟩) (fun fin s' => ∃ v, fin = .done (.ret v) ∧ Q v s') E s := by
  obtain ⟨hp, g, d, tk, os⟩ := s
  show wpAny _ _ (field (.ref e) 2 >>= _) _ _ _
  refine wpAny_bind (wpAny_field he rfl (x := .ref it) rfl ?_)
  refine wpAny_bind (next_item tt hit hl hx fun h₁ hit₁ hs₁ => ?_)
  replace hs₁ : Heap.SameBut it hp h₁ := hs₁
  have he₁ : IsEnum h₁ e it i old := (hs₁.2 e hne).trans he
  show wpAny _ _ (field (.ref e) 3 >>= _) _ _ ⟨h₁, g, d, tk, os⟩
  refine wpAny_bind (wpAny_field he₁ rfl (x := rawInt i) rfl ?_)
  show wpAny _ _ (field (.ref e) 4 >>= _) _ _ ⟨h₁, g, d, tk, os⟩
  refine wpAny_bind (wpAny_field he₁ rfl (x := .none) rfl ?_)
  show wpAny _ _ (mkInt i >>= _) _ _ ⟨h₁, g, d, tk, os⟩
  refine wpAny_bind (wpAny_mkInt ?_)
  show wpAny _ _ (setField (.ref e) 3 (rawInt ((i : Int) + 1)) >>= _) _ _ ⟨h₁, g, d, tk + 1, os⟩
  refine wpAny_bind (wpAny_setField_rec he₁ (by simp) fun h₂ he₂ hs₂ => ?_)
  replace hs₂ : Heap.SameBut e h₁ h₂ := hs₂
  replace he₂ : IsEnum h₂ e it ((i : Int) + 1) old := he₂
  show wpAny _ _ (setField (.ref e) 4 .none >>= _) _ _ ⟨h₂, g, d, tk + 1, os⟩
  refine wpAny_bind (wpAny_setField_rec he₂ (by simp) fun h₃ he₃ hs₃ => ?_)
  replace hs₃ : Heap.SameBut e h₂ h₃ := hs₃
  replace he₃ : IsEnum h₃ e it ((i : Int) + 1) old := he₃
  show wpAny _ _ (newTuple [.int i tk, x] >>= _) _ _ ⟨h₃, g, d, tk + 1, os⟩
  refine wpAny_bind (wpAny_newTuple ?_)
  have he₄ : IsEnum (h₃.push { cls := .type "tuple", data := .seq #[.int i tk, x] }) e it ((i : Int) + 1) old := Heap.get?_push_of_some _ he₃
  generalize hh₄ : h₃.push { cls := .type "tuple", data := .seq #[.int i tk, x] } = h₄ at he₄
  have hsz : h₃.objs.size = hp.objs.size := by rw [hs₃.1, hs₂.1, hs₁.1]
  have hel : e < hp.objs.size := Heap.lt_size he
  have ht₄ : h₄.get? hp.objs.size = some { cls := .type "tuple", data := .seq #[.int i tk, x] } := by rw [← hh₄, ← hsz]; exact Heap.get?_push_size _ rfl
  have hz₄ : h₄.objs.size = hp.objs.size + 1 := by rw [← hh₄, Heap.size_push, hsz]
  have hk₄ : ∀ b o, b ≠ e → b ≠ it → hp.get? b = some o → h₄.get? b = some o := fun b o hbe hbi hb => by
    rw [← hh₄]; exact Heap.get?_push_of_some _ (hs₃.extBut b o hbe (hs₂.extBut b o hbe (hs₁.extBut b o hbi hb)))
  have hit₄ : ItAt tt h₄ it l (i + 1) := by
    rw [← hh₄]; exact ((hit₁.ext hs₂.extBut (Ne.symm hne)).ext hs₃.extBut (Ne.symm hne)).at fun o ho => Heap.get?_push_of_some _ ho
  show wpAny _ _ (Builtin.SmallTypes.ownedTupleIsFree (.ref e) >>= _) _ _ ⟨h₄, g, d, tk + 1, os⟩
  rw [hsz]
  clear hh₄ he₃ hs₃ he₂ hs₂ he₁ hs₁ hit₁ hsz h₃ h₂ h₁
  refine wpAny_bind ?_
  · unfold Builtin.SmallTypes.ownedTupleIsFree
    refine wpAny_bind (wpAny_field he₄ rfl (x := .none) rfl (wpAny_pure ?_))
    simp only [if_true]
    refine wpAny_bind (wpAny_rule ?_)
    refine wpAny_bind (wpAny_field he₄ rfl (x := old) rfl ?_)
    refine wpAny_bind (wpAny_setField_rec he₄ (by simp) fun h₅ he₅ hs₅ => ?_)
    replace hs₅ : Heap.SameBut e h₄ h₅ := hs₅
    replace he₅ : IsEnum h₅ e it ((i : Int) + 1) x := he₅
    show wpAny _ _ (Builtin.SmallTypes.ownedTupleHandOut (.ref e) (.ref hp.objs.size) >>= _) _ _ ⟨h₅, g, d, tk + 1, os⟩
    refine wpAny_bind ?_
    · unfold Builtin.SmallTypes.ownedTupleHandOut
      refine wpAny_bind (wpAny_setField_rec he₅ (by simp) fun h₆ he₆ hs₆ => ?_)
      replace hs₆ : Heap.SameBut e h₅ h₆ := hs₆
      replace he₆ : IsEnumOut h₆ e it ((i : Int) + 1) x hp.objs.size := he₆
      refine wpAny_setField_rec he₆ (by simp) fun h₇ he₇ hs₇ => ?_
      replace hs₇ : Heap.SameBut e h₆ h₇ := hs₇
      replace he₇ : IsEnumOut h₇ e it ((i : Int) + 1) x hp.objs.size := he₇
      refine wpAny_bind (wpAny_letGo (wpAny_pure ⟨_, rfl, hQ h₇ he₇ ?_ ?_ ?_ ?_⟩))
      · exact ((hit₄.ext hs₅.extBut (Ne.symm hne)).ext hs₆.extBut (Ne.symm hne)).ext hs₇.extBut (Ne.symm hne)
      · exact hs₇.extBut _ _ (Nat.ne_of_gt hel) (hs₆.extBut _ _ (Nat.ne_of_gt hel) (hs₅.extBut _ _ (Nat.ne_of_gt hel) ht₄))
      · rw [hs₇.1, hs₆.1, hs₅.1, hz₄]
      · exact fun b o hbe hbi hb => hs₇.extBut b o hbe (hs₆.extBut b o hbe (hs₅.extBut b o hbe (hk₄ b o hbe hbi hb)))
theorem pyNext_enumI (tt : Bool) {e it l : Addr} {i : Nat} {items : Array Value} {x old : Value} {Q : Option Value → Shared → Prop}
    (he : IsEnum s.heap e it i old) (hit : ItAt tt s.heap it l i) (hl : SqAt tt s.heap l items) (hx : items[i]? = some x) (hne : e ≠ it)
    (hQ : ∀ h', IsEnumOut h' e it ((i : Int) + 1) x s.heap.objs.size → ItAt tt h' it l (i + 1) →
      h'.get? s.heap.objs.size = some { cls := .type "tuple", data := .seq #[.int i s.toks, x] } → h'.objs.size = s.heap.objs.size + 1 →
      (∀ b o, b ≠ e → b ≠ it → s.heap.get? b = some o → h'.get? b = some o) → Q (some (.ref s.heap.objs.size)) { s with heap := h', toks := s.toks + 1 }) :
    wpAny (model prog w) A (pyNext (.ref e)) Q E s := by
  have hT : s.TypeIs (.ref e) "enumerate" := ⟨_, he, rfl⟩
  unfold pyNext
  exact wpAny_bind (wpAny_attempt (wpAny_callSpecial?_slot (name := Str.ofString "__next__") hT PySem.F.slot_enumerate_next
    (wpAny_call_entry PySem.F.slot_enumerate_next hT PySem.F.entry_enumerate_next
      (enum_item tt he hit hl hx hne fun h' a b c d k => wpAny_pure (hQ h' a b c d k)) (PySem.F.args_enumerate_next_1 _))))
theorem pyNext_enumE (tt : Bool) {e it l : Addr} {i : Nat} {items : Array Value} {old : Value} {Q : Option Value → Shared → Prop} (hh : A.handled = none)
    (he : IsEnum s.heap e it i old) (hit : ItAt tt s.heap it l i) (hl : SqAt tt s.heap l items) (hx : items[i]? = none)
    (hQ : ∀ h', Heap.ExtBut it s.heap h' → Q none { s with heap := h' }) : wpAny (model prog w) A (pyNext (.ref e)) Q E s := by
  have hT : s.TypeIs (.ref e) "enumerate" := ⟨_, he, rfl⟩
  unfold pyNext
  refine wpAny_bind (wpAny_attempt (wpAny_callSpecial?_slot (name := Str.ofString "__next__") hT PySem.F.slot_enumerate_next
    (wpAny_call_entry PySem.F.slot_enumerate_next hT PySem.F.entry_enumerate_next ?_ (PySem.F.args_enumerate_next_1 _))))
  show wpAny _ _ (field (.ref e) 2 >>= _) _ _ _
  refine wpAny_bind (wpAny_field he rfl (x := .ref it) rfl ?_)
  refine wpAny_bind (next_end tt hh hit hl hx fun h' x he' hx' => ?_)
  obtain ⟨o, ho, hc⟩ := hx'
  refine wpAny_bind (wpAny_isInstance (T := "StopIteration") (b := true) ⟨o, ho, hc⟩ isSubtype_stop ?_)
  exact wpAny_pure (hQ _ he')
end
/-! ### the walk -/
def ItE (tt : Bool) (K : PySem.W.Frag) (a : Addr) : It :=
  ⟨fun i H => ∃ (xs : List V) (x : V), SqV tt K H a xs ∧ xs[i]? = some x, fun i H v H' => ∃ T x, v = .ref T ∧ H T = none ∧ H' = upd H T (.tup [.int (i : Nat), x]) ∧ ∀ xs, SqV tt K H a xs → xs[i]? = some x, fun i H => ∃ xs : List V, SqV tt K H a xs ∧ xs.length ≤ i⟩
theorem turn_enumU (tt : Bool) {P : Program} {w : World} {K : PySem.W.Frag} {elts : List Expr} {kk : Nat} {tpos : Pos} (a e it : Addr) :
    Turn P w K (.Tuple elts kk tpos) (ItE tt K a) [e, it] e (fun i h => (∃ old, IsEnum h e it ((i : Nat) : Int) old) ∧ ItAt tt h it a i ∧ e ≠ it) where
  mem := by simp
  obj := fun i h st b hb => by
    obtain ⟨⟨old, he⟩, hit0, _⟩ := st
    obtain ⟨o, ho, hd⟩ := hit0.obj
    have e' : b = e ∨ b = it := by simpa using hb
    rcases e' with z | z
    · rw [z]; exact ⟨_, he, fun v q => nomatch q⟩
    · rw [z]; exact ⟨o, ho, fun v q => by rw [hd] at q; cases q⟩
  keep := fun i h h' st k => let ⟨⟨old, he⟩, hi, hne⟩ := st; ⟨⟨old, k e (by simp) _ he⟩, hi.at fun o q => k it (by simp) o q, hne⟩
  item := by
    intro X hP hw hK hc i pins s σ H E I hf st hg
    subst hP hw hK
    obtain ⟨⟨old, he⟩, hit, hne⟩ := st
    obtain ⟨xs, x, hq, hx⟩ := hg
    obtain ⟨its, rv, p, hz⟩ := sq_at I hq
    obtain ⟨u, hu, ru⟩ := rv.get hx
    have hel : e < s.heap.objs.size := Heap.lt_size he
    have hil : it < s.heap.objs.size := hit.lt
    refine pyNext_enumI tt he hit p (x := u) (by simpa using hu) hne fun h' ho hit' hT hsz hk => ?_
    refine ⟨_, rfl, wpAny_letOwnedTupleGo_enum (s := { s with heap := h', toks := s.toks + 1 }) ho fun h'' he' sb => ?_⟩
    have hT2 : h''.get? s.heap.objs.size = some { cls := .type "tuple", data := .seq #[.int i s.toks, u] } := (sb.2 _ (Nat.ne_of_gt hel)).trans hT
    have new : ObjOk X.prog X.w (upd H s.heap.objs.size (.tup [.int (i : Nat), x])) h'' s.heap.objs.size (.tup [.int (i : Nat), x]) :=
      ⟨by show 2 ≤ sizeLine; decide, [.int i s.toks, u], .cons ⟨_, rfl⟩ (.cons ru .nil), ⟨_, hT2, rfl, _, rfl⟩⟩
    have I1 : Inv X pins σ (upd H s.heap.objs.size (.tup [.int (i : Nat), x])) { s with heap := h'', toks := s.toks + 1 } :=
      I.turnedNew (ch := [e, it]) (fun b ob hb q => (sb.2 b (fun z => hb (by simp [z]))).trans (hk b ob (fun z => hb (by simp [z])) (fun z => hb (by simp [z])) q)) hf (Nat.le_refl _) new
    refine ⟨.ref s.heap.objs.size, _, I1, rfl, ⟨_, x, rfl, I.hok.fresh (Nat.le_refl _), rfl, fun ys hy => by rw [sq_inj I hy hq]; exact hx⟩, ⟨⟨u, ?_⟩, hit'.at fun o q => (sb.2 it (Ne.symm hne)).trans q, hne⟩, fun b hb => ?_⟩
    · have e1 : ((i + 1 : Nat) : Int) = (i : Int) + 1 := by omega
      rw [e1]; exact he'
    · have hb' : b < s.heap.objs.size := by
        have e' : b = e ∨ b = it := by simpa using hb
        rcases e' with z | z
        · rw [z]; exact hel
        · rw [z]; exact hil
      rw [upd_ne (Nat.ne_of_lt hb')]
      exact (hf b hb).1
  done := by
    intro X hP hw hK hc i pins s σ H E I hf st hg
    subst hP hw hK
    obtain ⟨⟨old, he⟩, hit, hne⟩ := st
    obtain ⟨xs, hq, hx⟩ := hg
    obtain ⟨its, rv, p, hz⟩ := sq_at I hq
    obtain ⟨f0, f1, f2, f3, f4, f5⟩ := hf it (by simp)
    have hl := rv.length
    exact pyNext_enumE tt (I.ok.hd hc) he hit p (by simp; omega) fun h' eb => ⟨rfl, I.turned (t' := s.toks) (fun b o hb q => eb b o hb q) f0 f1 f3 f4 f5⟩
  self := fun A i s Q E st h => let ⟨⟨_, he⟩, _⟩ := st; wpAny_pyIter_enum he h
theorem meets_enum (t : Bool) (l : Addr) (xs : Array Value) : Meets (Builtin.«enumerate.__new__» ⟨[.type "enumerate", .ref l], []⟩) (fun _ R s => SqAt t s.heap l xs ∧
      R (.ok (.ret (.ref (s.heap.push (itO t l)).objs.size))) { s with heap := (s.heap.push (itO t l)).push { cls := .type "enumerate", data := .fields #[.none, .bool false, .ref s.heap.objs.size, rawInt 0, .none, .none] } }) :=
  .of_wp fun prog w A R s h => by
    obtain ⟨hp, g, d, tk, os⟩ := s
    obtain ⟨hl, h⟩ := h
    have hL : SqAt t (Shared.heap ⟨hp, g, d, tk, os⟩) l xs := hl
    have hsub := sub_enumerate
    wp_walk using pyIter_seq hL
    refine wpAny_stack_any fun st => wpAny_pure ?_
    split
    · rename_i c _ _ _ _ _
      cases (c == Value.type "enumerate")
      · wp_walk using pyIter_seq hL
        exact ⟨_, rfl, h⟩
      · wp_walk using pyIter_seq hL
        exact ⟨_, rfl, h⟩
    · wp_walk using pyIter_seq hL
      exact ⟨_, rfl, h⟩
theorem itO_free (t : Bool) (l : Addr) : (itO t l).isFreed = false := by cases t <;> rfl
theorem itO_at {t : Bool} {h : Heap} {a l : Addr} (e : h.get? a = some (itO t l)) : ItAt t h a l 0 := by
  cases t with
  | true => exact ⟨_, e, rfl, rfl⟩
  | false => exact ⟨_, e, rfl, rfl⟩
section
variable {prog : Program} {w : World} {A : Around} {E : Value → Shared → Prop} {s : Shared}
theorem call_enum {t : Bool} {l : Addr} {xs : Array Value} {Q : Value → Shared → Prop} (hL : SqAt t s.heap l xs)
    (h : ∀ h', IsEnum h' (s.heap.objs.size + 1) s.heap.objs.size 0 .none → ItAt t h' s.heap.objs.size l 0 → h'.objs.size = s.heap.objs.size + 2 →
      (∀ b o, s.heap.get? b = some o → h'.get? b = some o) → Q (.ref (s.heap.objs.size + 1)) { s with heap := h' }) :
    wpAny (model prog w) A (call (.type "enumerate") [.ref l]) Q E s := by
  refine callType_new PySem.F.called_enumerate (by decide) (PySem.F.typeCall_enumerate_1 _) (PySem.F.newCall_enumerate_1 _) (fun obj => PySem.F.args_object_init_2 obj _) PySem.F.entry_enumerate_new
    (meets_enum t l xs) ⟨hL, ?_⟩
  have hz : (s.heap.push (itO t l)).objs.size = s.heap.objs.size + 1 := Heap.size_push ..
  show _ ∧ _
  rw [hz]
  have he : IsEnum ((s.heap.push (itO t l)).push
      { cls := .type "enumerate", data := .fields #[.none, .bool false, .ref s.heap.objs.size, rawInt 0, .none, .none] }) (s.heap.objs.size + 1) s.heap.objs.size 0 .none := by
    have := Heap.get?_push_size (s.heap.push (itO t l))
      (o := { cls := .type "enumerate", data := .fields #[.none, .bool false, .ref s.heap.objs.size, rawInt 0, .none, .none] }) rfl
    rw [hz] at this; exact this
  refine ⟨⟨_, he, rfl⟩, h _ he (itO_at (Heap.get?_push_of_some _ (Heap.get?_push_size _ (itO_free t l)))) (by rw [Heap.size_push, hz]) fun b o x => Heap.get?_push_of_some _ (Heap.get?_push_of_some _ x)⟩
end
def iEnumU (K : PySem.W.Frag) (ta : TA) : TI := fun σ H R => ta σ H fun vs H1 => ∃ t a xs, vs = [.ref a] ∧ SqV t K H1 a xs ∧ R (ItE t K a) H1
theorem pi_enumU {X : Cx} {e : Expr} {ta : TA} {p pos tpos : Pos} {elts : List Expr} {kk : Nat} (hg : Gl X "enumerate") (hm : X.mg "enumerate" = none) (ha : PA X [e] ta) (hs : starEach [e] X.env = [(false, eval e X.env)]) :
    PI X (.Tuple elts kk tpos) (.Call (.Name "enumerate" p) [e] [] pos) (iEnumU X.K ta) := by
  refine ⟨fun pins s σ H R I h => ?_⟩
  refine Call_ (ld_blt I hg hm boot_enumerate (PyProof.Rows.callWith_type1 (thn (ha.run pos pins s σ H _ I h) fun us s1 ⟨vs, H1, I1, r1, q1⟩ => ?_) hs rfl))
  obtain ⟨t, a, xs, ex, hq, q⟩ := q1
  subst ex
  obtain ⟨u, rfl, ru⟩ := r1.one
  cases ru
  obtain ⟨its, rv, p', hz⟩ := sq_at I1 hq
  refine call_enum p' fun h' he hit hsz hk => wpAny_pyIter_enum he ?_
  have I2 : Inv X pins σ H1 { s1 with heap := h' } := I1.kept (t' := s1.toks) hk
  refine ⟨s1.heap.objs.size + 1, [s1.heap.objs.size + 1, s1.heap.objs.size], _, _, H1, rfl, I2, turn_enumU t a (s1.heap.objs.size + 1) s1.heap.objs.size, ⟨⟨.none, he⟩, hit, Nat.succ_ne_self _⟩, fun b hb => ?_, q⟩
  have e' : b = s1.heap.objs.size + 1 ∨ b = s1.heap.objs.size := by simpa using hb
  have hle : s1.heap.objs.size ≤ b := by
    rcases e' with z | z
    · rw [z]; exact Nat.le_add_right _ _
    · rw [z]; exact Nat.le_refl _
  exact I1.fpOk hle (I1.hok.fresh hle)
end DL
set_option Elab.async false
set_option linter.all false
set_option maxRecDepth 100000
set_option maxHeartbeats 4000000
/-! DL12: what is walked; dict displays; values frozen at the end -/
namespace DL
open PySem PySem.Spec PyProof.Rows L2
section
variable {I : Type} {Xs : I → Cx} {G : Gx} {E : WK} {kk : Nat}
/-- is it a tuple? -/
def isT : D → Bool
  | .tup _ => true
  | .wtp _ => true
  | _ => false
theorem seq_at {ι : Ix} {S : Sto} {H : Hp} {v : V} {d : D} {ds : List D} (R : Rel G ι S H) (r : Rep G ι (Lv ι S) H v d) (h : itemsOf d S = some ds) : ∃ a vs, v = .ref a ∧ SqV (isT d) G.K H a vs ∧ Reps G ι (Lv ι S) H vs ds := by
  cases d with
  | tup es =>
    cases h
    obtain ⟨a, vs, e, hs, rs⟩ := r.sqT
    exact ⟨a, vs, e, hs, rs⟩
  | wtp es =>
    cases h
    cases r with
    | wtp hw rs => exact ⟨_, _, rfl, .inr hw, rs⟩
  | lst es => exact lists_at R r h (fun _ h => nomatch h) fun _ h => nomatch h
  | scr es => exact lists_at R r h (fun _ h => nomatch h) fun _ h => nomatch h
  | ref n => exact lists_at R r h (fun _ h => nomatch h) fun _ h => nomatch h
  | _ => cases h
/-! ### a list or a tuple -/
def c_it (a : ECode) : Env → Sto → Res Wk := fun ρ S => (a ρ S).bind fun x S1 => match itemsOf x S1 with
  | some ds => .ok ⟨ds, [(x, ds)]⟩ S1
  | none => .stuck
def ItV (t : Bool) (K : PySem.W.Frag) (a : Addr) : It := match t with
  | true => Itt K a
  | false => Itl K a
def iSeq (K : PySem.W.Frag) (te : TE) : TI := fun σ H R => te σ H fun x H1 => ∃ t a, x = .ref a ∧ (∃ xs, SqV t K H1 a xs) ∧ R (ItV t K a) H1
theorem pi_seq {X : Cx} {tg l : Expr} {tl : TE} (hl : PE X l tl) : PI X tg l (iSeq X.K tl) := by
  refine ⟨fun pins s σ H R I h => ?_⟩
  refine thn (hl.run pins s σ H _ I h) fun v s1 ⟨x, H1, I1, r1, q1⟩ => ?_
  obtain ⟨t, a, e, ⟨xs, hq⟩, q⟩ := q1
  subst e
  cases r1
  cases t with
  | true =>
    obtain ⟨its, rv, p, hz⟩ := I1.tuple hq
    refine wpAny_pyIter_tuple (show s1.heap.IsTuple a its.toArray from p) ?_
    refine ⟨s1.heap.objs.size, [s1.heap.objs.size], _, _, H1, rfl, I1.kept (t' := s1.toks) fun b o e => Heap.get?_push_of_some _ e, turn_tuple a _, ⟨_, Heap.get?_push_size _ rfl, rfl, rfl⟩, fun b hb => ?_, q⟩
    have e : b = s1.heap.objs.size := by simpa using hb
    subst e
    exact I1.fpOk (Nat.le_refl _) (I1.hok.fresh (Nat.le_refl _))
  | false =>
    obtain ⟨its, rv, p, hz⟩ := I1.list hq
    refine wpAny_pyIter_list p.isList ?_
    refine ⟨s1.heap.objs.size, [s1.heap.objs.size], _, _, H1, rfl, I1.kept (t' := s1.toks) fun b o e => Heap.get?_push_of_some _ e, turn_list a _, ⟨_, Heap.get?_push_size _ rfl, rfl, rfl⟩, fun b hb => ?_, q⟩
    have e : b = s1.heap.objs.size := by simpa using hb
    subst e
    exact I1.fpOk (Nat.le_refl _) (I1.hok.fresh (Nat.le_refl _))
theorem walks_seq {ι : Ix} {S : Sto} {H : Hp} {a : Addr} {d : D} {ds : List D} (r : Rep G ι (Lv ι S) H (.ref a) d) : Walks G ⟨ds, [(d, ds)]⟩ ι S H (ItV (isT d) G.K a) := fun ι2 S2 H2 x2 R2 hok => by
  have hi : itemsOf d S2 = some ds := hok (d, ds) (by simp)
  obtain ⟨a', vs, e, hs, rs⟩ := seq_at R2 (r.mono x2) hi
  cases e
  have fin : ∀ (i : Nat) (y : D), ds[i]? = some y → ∃ v, vs[i]? = some v ∧ Rep G ι2 (Lv ι2 S2) H2 v y := fun i y h => rs.get h
  cases ht : isT d with
  | true =>
    rw [ht] at hs
    refine ⟨⟨vs, hs, by rw [rs.length]; exact Nat.le_refl _⟩, fun i y hy => ?_⟩
    obtain ⟨v, hv, rv⟩ := fin i y hy
    refine ⟨⟨vs, v, hs, hv⟩, fun x H3 hx => ?_⟩
    obtain ⟨rfl, hx⟩ := hx
    have e := (hx vs hs).symm.trans hv
    cases e
    exact ⟨Ext.refl, R2, rv, fun _ _ h => h⟩
  | false =>
    rw [ht] at hs
    refine ⟨⟨vs, hs, by rw [rs.length]; exact Nat.le_refl _⟩, fun i y hy => ?_⟩
    obtain ⟨v, hv, rv⟩ := fin i y hy
    refine ⟨⟨vs, v, hs, hv⟩, fun x H3 hx => ?_⟩
    obtain ⟨rfl, hx⟩ := hx
    have e := (hx vs hs).symm.trans hv
    cases e
    exact ⟨Ext.refl, R2, rv, fun _ _ h => h⟩
theorem di_seq (F : FamH Xs G E) {tg l : Expr} {a : ECode} (ha : DE Xs G E l a) : DI Xs G E tg l (c_it a) := by
  obtain ⟨t, p, s⟩ := ha
  refine ⟨iSeq G.K t, fun j => by have z := pi_seq (X := Xs j) (tg := tg) (p j); rw [F.K j] at z; exact z, fun ι S H σ ρ Q R e q => ?_⟩
  refine s.go R e q fun d S1 ι1 H1 v x1 R1 e1 r1 q1 => ?_
  cases h : itemsOf d S1 with
  | none => rw [h] at q1; exact q1.elim
  | some ds =>
    rw [h] at q1
    obtain ⟨a, vs, rfl, hs, rs⟩ := seq_at R1 r1 h
    exact ⟨isT d, a, rfl, ⟨vs, hs⟩, Post.here R1 q1 _ (walks_seq r1)⟩
/-! ### range -/
def rngD (lo : Int) (n : Nat) : List D := (List.range n).map fun (k : Nat) => .int (lo + (k : Int))
theorem rngD_length (lo : Int) (n : Nat) : (rngD lo n).length = n := by simp [rngD]
def smallI (i : Int) : Bool := decide (-(2 ^ 62) ≤ i ∧ i < 2 ^ 62)
theorem walks_rng {ι : Ix} {S : Sto} {H : Hp} {lo : Int} {n : Nat} : Walks G ⟨rngD lo n, []⟩ ι S H (Itr lo n) := fun ι2 S2 H2 x2 R2 hok => by
  refine ⟨by show n ≤ (rngD lo n).length; rw [rngD_length]; exact Nat.le_refl _, fun i y hy => ?_⟩
  have hy : (rngD lo n)[i]? = some y := hy
  have hi : i < n := by
    have := (List.getElem?_eq_some_iff.mp hy).1
    rwa [rngD_length] at this
  refine ⟨hi, fun x H3 hx => ?_⟩
  obtain ⟨rfl, rfl⟩ := hx
  have e : y = .int (lo + i) := by
    unfold rngD at hy
    rw [List.getElem?_map, List.getElem?_range hi] at hy
    cases hy
    rfl
  subst e
  exact ⟨Ext.refl, R2, .int _, fun _ _ h => h⟩
def c_rng1 (a : ACode) : Env → Sto → Res Wk := fun ρ S => (a ρ S).bind fun ds S1 => match ds with
  | [.int j] => if smallI j = true then .ok ⟨rngD 0 j.toNat, []⟩ S1 else .stuck
  | _ => .stuck
def c_rng2 (a : ACode) : Env → Sto → Res Wk := fun ρ S => (a ρ S).bind fun ds S1 => match ds with
  | [.int i, .int j] => if smallI i = true ∧ smallI j = true then .ok ⟨rngD i (j - i).toNat, []⟩ S1 else .stuck
  | _ => .stuck
theorem di_rng1 (F : FamH Xs G E) {tg e : Expr} {p pos : Pos} {a : ACode} (ha : DA Xs G E [e] a) (hg : ∀ j, Gl (Xs j) "range") (hm : G.mg "range" = none) (hs : ∀ j, starEach [e] (Xs j).env = [(false, eval e (Xs j).env)]) : DI Xs G E tg (.Call (.Name "range" p) [e] [] pos) (c_rng1 a) := by
  obtain ⟨t, pa, sa⟩ := ha
  refine ⟨_, fun j => pi_range1 (hg j) (by rw [F.mg j]; exact hm) (pa j) (hs j), fun ι S H σ ρ Q R e q => ?_⟩
  refine sa.go R e q fun ds S1 ι1 H1 vs x1 R1 e1 r1 q1 => ?_
  split at q1
  · rename_i j
    split at q1
    · rename_i hj
      obtain ⟨v, rfl, rv⟩ := r1.one
      have hj := of_decide_eq_true hj
      exact ⟨j, by rw [rv.int_of], hj.1, hj.2, Post.here R1 q1 _ walks_rng⟩
    · exact q1.elim
  · exact q1.elim
theorem di_rng2 (F : FamH Xs G E) {tg e e2 : Expr} {p pos : Pos} {a : ACode} (ha : DA Xs G E [e, e2] a) (hg : ∀ j, Gl (Xs j) "range") (hm : G.mg "range" = none) (hs : ∀ j, starEach [e, e2] (Xs j).env = [(false, eval e (Xs j).env), (false, eval e2 (Xs j).env)])
    (hs2 : ∀ j, starEach [e2] (Xs j).env = [(false, eval e2 (Xs j).env)]) : DI Xs G E tg (.Call (.Name "range" p) [e, e2] [] pos) (c_rng2 a) := by
  obtain ⟨t, pa, sa⟩ := ha
  refine ⟨_, fun j => pi_range2 (hg j) (by rw [F.mg j]; exact hm) (pa j) (hs j) (hs2 j), fun ι S H σ ρ Q R e q => ?_⟩
  refine sa.go R e q fun ds S1 ι1 H1 vs x1 R1 e1 r1 q1 => ?_
  split at q1
  · rename_i i j
    split at q1
    · rename_i hj
      obtain ⟨v, w, rfl, rv, rw'⟩ := r1.two
      have h1 := of_decide_eq_true hj.1
      have h2 := of_decide_eq_true hj.2
      exact ⟨i, j, by rw [rv.int_of, rw'.int_of], ⟨h1.1, h1.2, h2.1, h2.2⟩, Post.here R1 q1 _ walks_rng⟩
    · exact q1.elim
  · exact q1.elim
/-! ### enumerate, zip -/
def enumD (ds : List D) : List D := ds.zipIdx.map fun p => .tup [.int (p.2 : Nat), p.1]
theorem enumD_get {ds : List D} {i : Nat} {y : D} (h : (enumD ds)[i]? = some y) : ∃ d, ds[i]? = some d ∧ y = .tup [.int (i : Nat), d] := by
  unfold enumD at h
  rw [List.getElem?_map, List.getElem?_zipIdx] at h
  cases e : ds[i]? with
  | none => rw [e] at h; cases h
  | some d =>
    rw [e] at h
    cases h
    exact ⟨d, rfl, by simp⟩
theorem walks_enum {ι : Ix} {S : Sto} {H : Hp} {a : Addr} {d : D} {ds : List D} (r : Rep G ι (Lv ι S) H (.ref a) d) : Walks G ⟨enumD ds, [(d, ds)]⟩ ι S H (ItE (isT d) G.K a) := fun ι2 S2 H2 x2 R2 hok => by
  have hi : itemsOf d S2 = some ds := hok (d, ds) (by simp)
  obtain ⟨a', vs, e, hs, rs⟩ := seq_at R2 (r.mono x2) hi
  cases e
  refine ⟨⟨vs, hs, by rw [rs.length]; show _ ≤ (enumD ds).length; simp [enumD]⟩, fun i y hy => ?_⟩
  obtain ⟨d', hd, rfl⟩ := enumD_get hy
  obtain ⟨v, hv, rv⟩ := rs.get hd
  refine ⟨⟨vs, v, hs, hv⟩, fun x H3 hx => ?_⟩
  obtain ⟨T, w, rfl, hT, rfl, hx⟩ := hx
  have e := (hx vs hs).symm.trans hv
  cases e
  obtain ⟨x3, R3, r3⟩ := new_tup R2 hT (.cons (.int _) (.cons rv .nil))
  exact ⟨x3, R3, r3, keepNew hT⟩
def c_enum (a : ACode) : Env → Sto → Res Wk := fun ρ S => (a ρ S).bind fun xs S1 => match xs with
  | [x] => match itemsOf x S1 with
    | some ds => .ok ⟨enumD ds, [(x, ds)]⟩ S1
    | none => .stuck
  | _ => .stuck
theorem di_enum (F : FamH Xs G E) {elts : List Expr} {k : Nat} {tpos p pos : Pos} {e : Expr} {a : ACode} (ha : DA Xs G E [e] a) (hg : ∀ j, Gl (Xs j) "enumerate") (hm : G.mg "enumerate" = none) (hs : ∀ j, starEach [e] (Xs j).env = [(false, eval e (Xs j).env)]) :
    DI Xs G E (.Tuple elts k tpos) (.Call (.Name "enumerate" p) [e] [] pos) (c_enum a) := by
  obtain ⟨t, pa, sa⟩ := ha
  refine ⟨iEnumU G.K t, fun j => by have z := pi_enumU (X := Xs j) (elts := elts) (kk := k) (tpos := tpos) (p := p) (pos := pos) (hg j) (by rw [F.mg j]; exact hm) (pa j) (hs j); rw [F.K j] at z; exact z, fun ι S H σ ρ Q R e q => ?_⟩
  refine sa.go R e q fun ds S1 ι1 H1 vs x1 R1 e1 r1 q1 => ?_
  split at q1
  · rename_i d
    obtain ⟨v, rfl, rv⟩ := r1.one
    cases h : itemsOf d S1 with
    | none => rw [h] at q1; exact q1.elim
    | some ds =>
      rw [h] at q1
      obtain ⟨b, vs, rfl, hs, rs⟩ := seq_at R1 rv h
      exact ⟨isT d, b, vs, rfl, hs, Post.here R1 q1 _ (walks_enum rv)⟩
  · exact q1.elim
/-! ### dict displays -/
def p_dK (b : Bool) (kds : List (Key × D)) (S : Sto) : Res D := match b with
  | false => .ok (.dK kds) S
  | true => .ok (.ref S.length) (S ++ [some (.dK kds)])
def p_dT (b : Bool) (kds : List (List Key × D)) (S : Sto) : Res D := match b with
  | false => .ok (.dT kds) S
  | true => .ok (.ref S.length) (S ++ [some (.dT kds)])
theorem snoc_get {ι : Ix} {S : Sto} {H : Hp} (R : Rel G ι S H) (p : Addr) : (ι.snoc p).l[S.length]? = some p := by
  show (ι.l ++ [p])[S.length]? = some p
  rw [← R.len]
  simp
theorem p_dK_ok {E0 : XK} {b : Bool} {ι : Ix} {S : Sto} {H : Hp} {kvs : List (Key × V)} {kds : List (Key × D)} {Q : VK} (R : Rel G ι S H) (e : kvs.map (·.1) = kds.map (·.1)) (r : Reps G ι (Lv ι S) H (kvs.map (·.2)) (kds.map (·.2))) (q : Post G E0 ι S H (PV G Q) (p_dK b kds S)) :
    ∀ p, H p = none → Q (.ref p) (upd H p (.dK kvs)) := fun p hp => by
  cases b with
  | false =>
    have x : Ext ι S H ι S (upd H p (.dK kvs)) := Ext.same (keepNew hp)
    exact q _ _ x (R.same (keepNew hp)) _ (.dK upd_same (R.freshL hp) e (r.mono x))
  | true =>
    have x : Ext ι S H (ι.snoc p) (S ++ [some (.dK kds)]) (upd H p (.dK kvs)) := Ext.new R hp
    exact q _ _ x (R.new hp ⟨kvs, upd_same, e, r.mono x⟩) _ (.ref (snoc_get R p))
/-- {} -/
def c_dK0 (b : Bool) : ECode := fun _ S => p_dK b [] S
def c_dT0 (b : Bool) : ECode := fun _ S => p_dT b [] S
theorem de_dK0 (b : Bool) {pos : Pos} : DE Xs G E (.Dict [] [] pos) (c_dK0 b) := ⟨_, fun _ => pe_dnewK, fun ι S H σ ρ Q R e q => p_dK_ok R (kvs := []) rfl .nil q⟩
/-! ### frozen at the end -/
/-- x, a cell of one's own, is returned and never written again -/
def frz (d : D) (S : Sto) : Res D := match d with
  | .ref n => match cellOf S n with
    | some (.lst ds) => .ok (.lst ds) (S.set n none)
    | some (.dK kds) => .ok (.dK kds) (S.set n none)
    | some (.dT kds) => .ok (.dT kds) (S.set n none)
    | some (.ins c fs) => .ok (.obj c fs) (S.set n none)
    | none => .ok d S
  | d => .ok d S
def c_frz (a : ECode) : ECode := fun ρ S => (a ρ S).bind frz
end
end DL
set_option Elab.async false
set_option linter.all false
set_option maxRecDepth 100000
set_option maxHeartbeats 4000000
/-! DLD: dict displays with pairs -/
namespace DL
open PySem PySem.Spec PyProof.Rows L2
section
variable {X : Cx} {pins : List (Addr × Obj)} {σ : L2.St} {H : Hp} {s : Shared} {a : Addr} {y v : V} {u r : Value} {A : Around} {E : Value → Shared → Prop}
theorem d_dictSet {H' : Hp} {Q : Unit → Shared → Prop} (hu : A.units + 1 < cLine) (I : Inv X pins σ H s) (g : DPut H a y v H') (ry : RelV y u) (rv : RelV v r) (h : ∀ s', Inv X pins σ H' s' → Q () s') :
    wpAny (model X.prog X.w) A (dictSet a u r) Q E s := by
  rcases g with ⟨kvs, k, e, ey, l, eH⟩ | ⟨kvs, k, b, e, ey, eb, l, eH⟩
  · subst ey eH
    obtain ⟨z, hd, vs, rel, dd⟩ := dk_of I.hok e
    have hz : vs.length ≤ sizeLine := by rw [← rel.length]; exact z
    have hl : (putK kvs k v).length ≤ sizeLine := by have := length_putK kvs k v; omega
    refine wpAny_dictSet_pairs (hsz := hz) (kV_is ry) dd fun h' dd' hs => h _ ?_
    have he : ∃ q, h'.get? a = some q := let ⟨q, _, _, hq, _⟩ := dd'; ⟨q, hq⟩
    exact d_write I (by rw [e]; exact True.intro) hs he (dk_new hl hd (rel.put k rv) dd')
  · subst ey eH
    cases (show u = Value.ref b from ry)
    obtain ⟨z, hd, xs, rel, dd⟩ := dt_of I.hok e
    have hz : xs.length ≤ sizeLine := by rw [← Paired.length rel]; exact z
    have hl : (putK kvs k v).length ≤ sizeLine := by have := length_putK kvs k v; omega
    refine wpAny_dictSet_heap (hsz := hz) (show A.units < cLine by omega) (key_of I.hok eb) dd fun h' dd' hs => h _ ?_
    obtain ⟨q, es, ep, hq, h2, h3, h4, _, h5⟩ := dd'
    refine d_write I (by rw [e]; exact True.intro) hs ⟨q, hq⟩ ⟨hl, hd, _, (rel.put k eb rv).keeps fun c ys ec => ?_, q, es, ep, hq, h2, h3, h4, h5⟩
    rw [upd_ne (ne_of ec e (fun z => nomatch z))]
    exact ec
end
def emptyD : Bool → HO
  | false => .dK []
  | true => .dT []
def Puts (p : Addr) : List (V × V) → Hp → Hp → Prop
  | [], H, H' => H' = H
  | (x, y) :: r, H, H' => ∃ H1, DPut H p x y H1 ∧ Puts p r H1 H'
def tDispU (kT : Bool) (trs : List (TE × TE)) : TE := fun σ H Q => ∀ p, H p = none → tPairs trs σ (upd H p (emptyD kT)) fun ps H2 => ∃ H3, Puts p ps H2 H3 ∧ Q (.ref p) H3
theorem store_all {X : Cx} {pins : List (Addr × Obj)} {σ : L2.St} {A : Around} {E : Value → Shared → Prop} {a : Addr} (hu : A.units + 1 < cLine) : ∀ (ps : List (V × V)) (ws : List (Value × Value)) (H H' : Hp) (s : Shared) (Q : PUnit → Shared → Prop), Inv X pins σ H s → VV ps ws → Puts a ps H H' →
    (∀ s', Inv X pins σ H' s' → Q PUnit.unit s') →
    wpAny (model X.prog X.w) A (forIn ws PUnit.unit fun (x : Value × Value) (_ : PUnit) => (do dictSet a x.1 x.2; pure (ForInStep.yield PUnit.unit) : Sem (ForInStep PUnit))) Q E s
  | [], _, H, H', s, Q, I, .nil, g, h => by
    rw [List.forIn_nil]
    obtain rfl : H' = H := g
    exact wpAny_pure (h s I)
  | (x, y) :: ps, _, H, H', s, Q, I, .cons r rs, ⟨H1, g1, g2⟩, h => by
    rw [List.forIn_cons]
    refine wpAny_bind (wpAny_bind (d_dictSet hu I g1 r.1 r.2 fun s1 I1 => wpAny_pure ?_))
    exact store_all hu ps _ H1 H' s1 Q I1 rs g2 h
theorem pe_dispU (kT : Bool) {X : Cx} {pos : Pos} {keys : List (Option Expr)} {values : List Expr} {trs : List (TE × TE)} (hu : X.A.units + 1 < cLine) (h : PPs X pos keys values trs) (hall : keys.all (·.isSome) = true) (hl : keys.length = values.length) (h0 : keys ≠ [])
    (h15 : keys.length ≤ 15) : PE X (.Dict keys values pos) (tDispU kT trs) := by
  refine ⟨fun pins s σ H Q I q => ?_⟩
  have hn := I.hok.fresh (Nat.le_refl s.heap.objs.size)
  have I1 : Inv X pins σ (upd H s.heap.objs.size (emptyD kT)) { s with heap := s.heap.push { cls := .type "dict", data := .dict #[] } } := by
    cases kT with
    | false => exact I.laid (a := s.heap.objs.size) (o := .dK []) (h' := s.heap.push { cls := .type "dict", data := .dict #[] }) (t' := s.toks) (fun _ _ q => Heap.get?_push_of_some _ q) (Nat.le_refl _) (dk_empty s.heap I.big)
    | true => exact I.laid (a := s.heap.objs.size) (o := .dT []) (h' := s.heap.push { cls := .type "dict", data := .dict #[] }) (t' := s.toks) (fun _ _ q => Heap.get?_push_of_some _ q) (Nat.le_refl _) (dt_empty s.heap I.big)
  have hpl := pairTrees_length keys values X.env pos hall hl
  have hne : pairTrees keys values X.env pos ≠ [] := fun he => by
    rw [he] at hpl
    exact h0 (List.length_eq_zero_iff.mp hpl.symm)
  rw [arm_eval_Dict, zip_pairTrees keys values X.env pos hall hl, dictDisplay_pairs _ hne (by omega)]
  refine wpAny_bind (wpAny_standAt (wpAny_bind ?_))
  unfold subDict
  refine wpAny_bind (wpAny_alloc ?_)
  refine wpAny_bind (wpAny_holding ?_)
  rw [if_pos (by omega)]
  refine wpAny_bind (thn (h.run pins _ σ _ _ I1 (q _ hn)) fun ws s2 ⟨ps, H2, I2, rel, H3, g, q2⟩ => ?_)
  refine wpAny_holding ?_
  refine wpAny_bind (store_all hu ps ws H2 H3 s2 _ I2 rel g fun s3 I3 => wpAny_pure (wpAny_pure (wpAny_pure ?_)))
  exact ⟨.ref s.heap.objs.size, H3, I3, rfl, q2⟩
/-! ### on data -/
def SndPs (G : Gx) (E : WK) (trs : List (TE × TE)) (c : Env → Sto → Res (List (D × D))) : Prop := ∀ ι S H σ ρ (Q : List (V × V) → Hp → Prop), Rel G ι S H → REnv G ι S H σ ρ →
  Post G (E σ) ι S H (fun ps ι' S' H' => ∀ vs : List (V × V), Reps G ι' (Lv ι' S') H' (vs.map (·.1)) (ps.map (·.1)) → Reps G ι' (Lv ι' S') H' (vs.map (·.2)) (ps.map (·.2)) → Q vs H') (c ρ S) → tPairs trs σ H Q
def DPs {I : Type} (Xs : I → Cx) (G : Gx) (E : WK) (pos : Pos) (keys : List (Option Expr)) (values : List Expr) (c : Env → Sto → Res (List (D × D))) : Prop := ∃ trs, (∀ j, PPs (Xs j) pos keys values trs) ∧ SndPs G E trs c
def c_ps0 : Env → Sto → Res (List (D × D)) := fun _ S => .ok [] S
def c_ps (k v : ECode) (r : Env → Sto → Res (List (D × D))) : Env → Sto → Res (List (D × D)) := fun ρ S => (k ρ S).bind fun x S1 => (v ρ S1).bind fun y S2 => (r ρ S2).bind fun ps S3 => .ok ((x, y) :: ps) S3
section
variable {I : Type} {Xs : I → Cx} {G : Gx} {E : WK} {kk : Nat}
theorem dps_nil {pos : Pos} : DPs Xs G E pos [] [] c_ps0 := ⟨[], fun _ => pps_nil, fun ι S H σ ρ Q R e q => Post.here R q [] .nil .nil⟩
theorem dps_cons {pos : Pos} {k v : Expr} {ks : List (Option Expr)} {vs : List Expr} {ck cv : ECode} {r : Env → Sto → Res (List (D × D))} (hk : DE Xs G E k ck) (hv : DE Xs G E v cv) (hr : DPs Xs G E pos ks vs r) : DPs Xs G E pos (some k :: ks) (v :: vs) (c_ps ck cv r) := by
  obtain ⟨tk, pk, sk⟩ := hk
  obtain ⟨tv, pv, sv⟩ := hv
  obtain ⟨tr, pr, sr⟩ := hr
  refine ⟨(tk, tv) :: tr, fun j => pps_cons (pk j) (pv j) (pr j), fun ι S H σ ρ Q R e q => ?_⟩
  refine sk.go R e q fun d S1 ι1 H1 x x1 R1 e1 r1 q1 => ?_
  refine sv.go R1 e1 q1 fun d2 S2 ι2 H2 y x2 R2 e2 r2 q2 => ?_
  refine sr ι2 S2 H2 σ ρ _ R2 e2 (Post.bind q2 fun ps S3 ι3 H3 x3 R3 q3 vs h1 h2 => ?_)
  exact Post.here R3 q3 ((x, y) :: vs) (.cons ((r1.mono x2).mono x3) h1) (.cons (r2.mono x3) h2)
def mergeD {κ : Type} [DecidableEq κ] (kds : List (κ × D)) : List (κ × D) → List (κ × D)
  | [] => kds
  | p :: r => mergeD (putD kds p.1 p.2) r
def keyedK (ps : List (D × D)) : Option (List (Key × D)) := ps.mapM fun p => (keyOf p.1).map fun k => (k, p.2)
def keyedT (ps : List (D × D)) : Option (List (List Key × D)) := ps.mapM fun p => (keysOf p.1).map fun k => (k, p.2)
def p_dispK (b : Bool) (ps : List (D × D)) (S : Sto) : Res D := match keyedK ps with
  | some kds => if kds.length ≤ 1000 then p_dK b (mergeD [] kds) S else .stuck
  | none => .stuck
def p_dispT (b : Bool) (ps : List (D × D)) (S : Sto) : Res D := match keyedT ps with
  | some kds => if kds.length ≤ 1000 then p_dT b (mergeD [] kds) S else .stuck
  | none => .stuck
theorem putD_length {κ : Type} [DecidableEq κ] (kds : List (κ × D)) (k : κ) (d : D) : (putD kds k d).length ≤ kds.length + 1 := by
  unfold putD
  split <;> simp
theorem hide_rel {ι : Ix} {S : Sto} {H : Hp} {p : Addr} {o : HO} (R : Rel G ι S H) (hp : H p = none) (hnt : ∀ xs, o ≠ .tup xs) : Ext ι S H (ι.hide p) S (upd H p o) ∧ Rel G (ι.hide p) S (upd H p o) := by
  have np : p ∉ ι.l := fun z => by
    obtain ⟨u, h⟩ := R.trk p z
    rw [hp] at h
    cases h
  have R2 : Rel G ι S (upd H p o) := R.same (keepNew hp)
  have x0 : Ext ι S H ι S (upd H p o) := Ext.same (keepNew hp)
  have xh : Ext ι S H (ι.hide p) S (upd H p o) := by
    refine ⟨⟨[], by simp⟩, fun a z => .inl z, fun a z => ?_, x0.trk, x0.liv, x0.keep⟩
    rcases z with z | z
    · exact .inl z
    · exact .inr (by rw [z]; exact hp)
  refine ⟨xh, R2.len, R2.nd, fun n c h => ?_, R2.trk, fun a z => ?_⟩
  · obtain ⟨a, h1, h2⟩ := R.cell n c h
    exact ⟨a, h1, h2.mono xh (upd_ne fun z => np (z ▸ List.mem_of_getElem? h1))⟩
  · rcases z with z | z
    · exact R2.ztr a z
    · rw [z]
      exact ⟨⟨_, upd_same, hnt⟩, np⟩
theorem puts_K {ι0 : Ix} {S0 : Sto} {H0 : Hp} {p : Addr} (hp0 : H0 p = none) {ι : Ix} {S : Sto} (hz : ι.z p) : ∀ (vs : List (V × V)) (kds acc : List (Key × D)) (kvs : List (Key × V)) (H : Hp), Ext ι0 S0 H0 ι S H → Rel G ι S H → H p = some (.dK kvs) → kvs.map (·.1) = acc.map (·.1) →
    Reps G ι (Lv ι S) H (kvs.map (·.2)) (acc.map (·.2)) → vs.map (·.1) = kds.map (fun kd => kV kd.1) → Reps G ι (Lv ι S) H (vs.map (·.2)) (kds.map (·.2)) → acc.length + kds.length ≤ 1000 →
    ∃ H' kvs', Puts p vs H H' ∧ Ext ι0 S0 H0 ι S H' ∧ Rel G ι S H' ∧ H' p = some (.dK kvs') ∧ kvs'.map (·.1) = (mergeD acc kds).map (·.1) ∧ Reps G ι (Lv ι S) H' (kvs'.map (·.2)) ((mergeD acc kds).map (·.2))
  | [], [], acc, kvs, H, x, R, hH, he, hr, _, _, _ => ⟨H, kvs, rfl, x, R, hH, he, hr⟩
  | [], _ :: _, _, _, _, _, _, _, _, _, e, _, _ => by cases e
  | _ :: _, [], _, _, _, _, _, _, _, _, e, _, _ => by cases e
  | (a, w) :: vs, (k, d) :: kds, acc, kvs, H, x, R, hH, he, hr, e, .cons r rs, hl => by
    simp only [List.map_cons, List.cons.injEq] at e
    obtain ⟨rfl, e⟩ := e
    obtain ⟨e1, e2⟩ := putD_rep k he hr r
    obtain ⟨m1, m2, R1⟩ := R.hid (o := .dK (putK kvs k w)) hz (fun _ h => nomatch h)
    have hln := len_fst he
    simp only [List.length_cons] at hl
    obtain ⟨H', kvs', g, x', R', hH', he', hr'⟩ := puts_K hp0 hz vs kds (putD acc k d) (putK kvs k w) (upd H p (.dK (putK kvs k w))) (x.hid hp0) R1 upd_same e1 (m2 _ _ e2) e (m2 _ _ rs) (by have := putD_length acc k d; omega)
    exact ⟨H', kvs', ⟨_, DPut.k hH (by rw [hln, sizeLine_eq]; omega), g⟩, x', R', hH', he', hr'⟩
theorem keyedK_rep {ι : Ix} {L : Addr → Prop} {H : Hp} : ∀ {vs : List (V × V)} {ps : List (D × D)} {kds : List (Key × D)}, Reps G ι L H (vs.map (·.1)) (ps.map (·.1)) → keyedK ps = some kds → vs.map (·.1) = kds.map (fun kd => kV kd.1) ∧ ps.map (·.2) = kds.map (·.2)
  | [], [], kds, _, h => by
    cases h
    exact ⟨rfl, rfl⟩
  | (v, w) :: vs, (x, y) :: ps, kds, .cons q qs, h => by
    unfold keyedK at h
    rw [List.mapM_cons] at h
    cases hk : keyOf x with
    | none => simp only [hk, Option.map_none] at h; cases h
    | some k =>
      simp only [hk, Option.map_some] at h
      cases ht : keyedK ps with
      | none =>
        unfold keyedK at ht
        rw [ht] at h
        cases h
      | some kds' =>
        have ih := keyedK_rep qs ht
        unfold keyedK at ht
        rw [ht] at h
        cases h
        have e0 : v = kV k := keyOf_rep q hk
        exact ⟨by rw [List.map_cons, List.map_cons, ih.1, e0], by rw [List.map_cons, List.map_cons, ih.2]⟩
/-- what was hidden is shown, for good -/
theorem shown {ι0 ι : Ix} {S0 S : Sto} {H0 H : Hp} {p : Addr} (R0 : Rel G ι0 S0 H0) (hp : H0 p = none) (x : Ext ι0 S0 H0 ι S H) (R : Rel G ι S H) (hz : ι.z p) :
    Ext ι0 S0 H0 ⟨ι.l, fun a => ι.z a ∧ a ≠ p⟩ S H ∧ Rel G ⟨ι.l, fun a => ι.z a ∧ a ≠ p⟩ S H ∧ (∀ vs ds, Reps G ι (Lv ι S) H vs ds → Reps G ⟨ι.l, fun a => ι.z a ∧ a ≠ p⟩ (Lv ⟨ι.l, fun a => ι.z a ∧ a ≠ p⟩ S) H vs ds) ∧ ¬ Lv ⟨ι.l, fun a => ι.z a ∧ a ≠ p⟩ S p := by
  have nz : ∀ a, ι0.z a → a ≠ p := fun a z e' => by
    obtain ⟨⟨u, h, _⟩, _⟩ := R0.ztr a z
    rw [e', hp] at h
    cases h
  have hw : ∀ a, Lv ⟨ι.l, fun a => ι.z a ∧ a ≠ p⟩ S a → Lv ι S a := fun a z => by
    rcases z with z | z
    · exact .inl z
    · exact .inr z.1
  have np : p ∉ ι.l := (R.ztr p hz).2
  refine ⟨⟨x.pre, fun a z => ⟨x.zs a z, nz a z⟩, fun a z => x.zn a z.1, x.trk, x.liv, x.keep⟩, R.unhide, fun vs ds r => r.weak (ι := ι) (ι' := ⟨ι.l, fun a => ι.z a ∧ a ≠ p⟩) hw rfl, fun z => ?_⟩
  rcases z with ⟨n, c, h1, _⟩ | z
  · exact np (List.mem_of_getElem? h1)
  · exact z.2 rfl
/-- what was hidden is a cell -/
theorem adopt {ι0 ι : Ix} {S0 S : Sto} {H0 H : Hp} {p : Addr} {c : Cell} (R0 : Rel G ι0 S0 H0) (hp : H0 p = none) (x : Ext ι0 S0 H0 ι S H) (R : Rel G ι S H) (hz : ι.z p) (hc : CellIs G ι (Lv ι S) H p c) :
    Ext ι0 S0 H0 ⟨ι.l ++ [p], fun a => ι.z a ∧ a ≠ p⟩ (S ++ [some c]) H ∧ Rel G ⟨ι.l ++ [p], fun a => ι.z a ∧ a ≠ p⟩ (S ++ [some c]) H := by
  have nz : ∀ a, ι0.z a → a ≠ p := fun a z e' => by
    obtain ⟨⟨u, h, _⟩, _⟩ := R0.ztr a z
    rw [e', hp] at h
    cases h
  have np : p ∉ ι.l := (R.ztr p hz).2
  have old : ∀ n a c', (ι.l ++ [p])[n]? = some a → (S ++ [some c])[n]? = some (some c') → (ι.l[n]? = some a ∧ S[n]? = some (some c')) ∨ (a = p ∧ c' = c ∧ n = S.length) := fun n a c' h1 h2 => by
    by_cases hlt : n < S.length
    · rw [List.getElem?_append_left hlt] at h2
      rw [List.getElem?_append_left (by rw [R.len]; exact hlt)] at h1
      exact .inl ⟨h1, h2⟩
    · have hl : n < (S ++ [some c]).length := (List.getElem?_eq_some_iff.mp h2).1
      have e : n = S.length := by
        simp at hl
        omega
      subst e
      rw [← R.len] at h1
      simp at h1 h2
      exact .inr ⟨h1.symm, h2.symm, rfl⟩
  have hw : ∀ a, Lv ⟨ι.l ++ [p], fun a => ι.z a ∧ a ≠ p⟩ (S ++ [some c]) a → Lv ι S a := fun a z => by
    rcases z with ⟨n, c', h1, h2⟩ | z
    · rcases old n a c' h1 h2 with ⟨h1, h2⟩ | ⟨rfl, _, _⟩
      · exact .inl ⟨n, c', h1, h2⟩
      · exact .inr hz
    · exact .inr z.1
  have hl : ∀ m, m < ι.l.length → (⟨ι.l ++ [p], fun a => ι.z a ∧ a ≠ p⟩ : Ix).l[m]? = ι.l[m]? := fun m hm => List.getElem?_append_left hm
  have up : ∀ a c', CellIs G ι (Lv ι S) H a c' → CellIs G ⟨ι.l ++ [p], fun a => ι.z a ∧ a ≠ p⟩ (Lv ⟨ι.l ++ [p], fun a => ι.z a ∧ a ≠ p⟩ (S ++ [some c])) H a c' := fun a c' h => by
    cases c' with
    | lst ds =>
      obtain ⟨vs, a1, a2⟩ := h
      exact ⟨vs, a1, Reps.cut hw hl a2.lt a2⟩
    | dK ds =>
      obtain ⟨vs, a1, a3, a2⟩ := h
      exact ⟨vs, a1, a3, Reps.cut hw hl a2.lt a2⟩
    | dT ds =>
      obtain ⟨vs, a1, a3, a2⟩ := h
      exact ⟨vs, a1, a3, Reps.cut hw hl a2.lt a2⟩
    | ins c fs =>
      obtain ⟨dx, vs, a1, a3, a2⟩ := h
      exact ⟨dx, vs, a1, a3, Reps.cut hw hl a2.lt a2⟩
  obtain ⟨t, ht⟩ := x.pre
  refine ⟨⟨⟨t ++ [p], by rw [ht, List.append_assoc]⟩, fun a z => ⟨x.zs a z, nz a z⟩, fun a z => x.zn a z.1, x.trk, fun a z => ?_, x.keep⟩, ⟨by simp [R.len], ?_, fun n c' h => ?_, fun a ha => ?_, fun a z => ?_⟩⟩
  · obtain ⟨n, c', h1, h2⟩ := z
    rcases old n a c' h1 h2 with ⟨h1, h2⟩ | ⟨rfl, _, _⟩
    · exact x.liv a ⟨n, c', h1, h2⟩
    · exact .inr hp
  · show (ι.l ++ [p]).Nodup
    rw [List.nodup_append]
    refine ⟨R.nd, by simp, fun a ha b hb z => ?_⟩
    simp at hb
    exact np (by rw [← hb, ← z]; exact ha)
  · by_cases hlt : n < S.length
    · rw [List.getElem?_append_left hlt] at h
      obtain ⟨a, h1, h2⟩ := R.cell n c' h
      exact ⟨a, by show (ι.l ++ [p])[n]? = some a; rw [List.getElem?_append_left (by rw [R.len]; exact hlt)]; exact h1, up a c' h2⟩
    · have hln : n < (S ++ [some c]).length := (List.getElem?_eq_some_iff.mp h).1
      have e : n = S.length := by
        simp at hln
        omega
      subst e
      simp at h
      subst h
      refine ⟨p, ?_, up p _ hc⟩
      show (ι.l ++ [p])[S.length]? = some p
      rw [← R.len]
      simp
  · rcases List.mem_append.mp ha with ha | ha
    · exact R.trk a ha
    · simp at ha
      subst ha
      obtain ⟨⟨o, h, _⟩, _⟩ := R.ztr a hz
      exact ⟨o, h⟩
  · obtain ⟨q, n⟩ := R.ztr a z.1
    refine ⟨q, fun hm => ?_⟩
    rcases List.mem_append.mp hm with hm | hm
    · exact n hm
    · simp at hm
      exact z.2 hm
theorem show_K {b : Bool} {ι0 ι : Ix} {S0 S : Sto} {H0 H : Hp} {p : Addr} {kvs : List (Key × V)} {kds : List (Key × D)} {Q : VK} (R0 : Rel G ι0 S0 H0) (hp : H0 p = none) (x : Ext ι0 S0 H0 ι S H) (R : Rel G ι S H) (hz : ι.z p) (hH : H p = some (.dK kvs)) (he : kvs.map (·.1) = kds.map (·.1))
    (hr : Reps G ι (Lv ι S) H (kvs.map (·.2)) (kds.map (·.2))) (q : Post G (E σ) ι0 S0 H0 (PV G Q) (p_dK b kds S)) : Q (.ref p) H := by
  cases b with
  | false =>
    obtain ⟨xu, Ru, hu, nl⟩ := shown R0 hp x R hz
    exact q _ _ xu Ru _ (.dK hH nl he (hu _ _ hr))
  | true =>
    obtain ⟨xu, Ru⟩ := adopt (c := .dK kds) R0 hp x R hz ⟨kvs, hH, he, hr⟩
    refine q _ _ xu Ru _ (.ref ?_)
    show (ι.l ++ [p])[S.length]? = some p
    rw [← R.len]
    simp
def c_dispK (b : Bool) (r : Env → Sto → Res (List (D × D))) : ECode := fun ρ S => (r ρ S).bind (p_dispK b)
def c_dispT (b : Bool) (r : Env → Sto → Res (List (D × D))) : ECode := fun ρ S => (r ρ S).bind (p_dispT b)
theorem Post.step {E0 : XK} {ιb ι : Ix} {Sb S : Sto} {Hb H : Hp} {α β : Type} {P : α → Ix → Sto → Hp → Prop} {P' : β → Ix → Sto → Hp → Prop} {r : Res α} {k : α → Sto → Res β} (x0 : Ext ιb Sb Hb ι S H) (p : Post G E0 ιb Sb Hb P' (r.bind k))
    (hk : ∀ a S1 ι1 H1, Ext ι S H ι1 S1 H1 → Rel G ι1 S1 H1 → Post G E0 ιb Sb Hb P' (k a S1) → P a ι1 S1 H1) : Post G E0 ι S H P r := by
  cases r with
  | ok a S2 => exact fun ι2 H2 y R => hk a S2 ι2 H2 y R p
  | ex c d S2 => exact fun ι2 H2 dd v y R => p ι2 H2 dd v (x0.trans y) R
  | stuck => exact p
theorem de_dispK (b : Bool) (F : Fam Xs G E kk) {pos : Pos} {keys : List (Option Expr)} {values : List Expr} {r : Env → Sto → Res (List (D × D))} (h : DPs Xs G E pos keys values r) (hall : keys.all (·.isSome) = true) (hl : keys.length = values.length) (h0 : keys ≠ []) (h15 : keys.length ≤ 15) :
    DE Xs G E (.Dict keys values pos) (c_dispK b r) := by
  obtain ⟨trs, pr, sr⟩ := h
  refine ⟨_, fun j => pe_dispU false (F.hu j) (pr j) hall hl h0 h15, fun ι S H σ ρ Q R e q p hp => ?_⟩
  obtain ⟨x0, R1⟩ := hide_rel (o := .dK []) R hp (fun _ h => nomatch h)
  refine sr (ι.hide p) S _ σ ρ _ R1 (e.mono x0) (Post.step x0 q fun ps S2 ι2 H2 x2 R2 q2 vs h1 h2 => ?_)
  have nl : ¬ Liv (ι.hide p) S p := fun z => by
    obtain ⟨n, c, h1, _⟩ := z
    exact (R1.ztr p (.inr rfl)).2 (List.mem_of_getElem? h1)
  have hH : H2 p = some (.dK []) := x2.keep p _ upd_same nl
  unfold p_dispK at q2
  cases hk : keyedK ps with
  | none => rw [hk] at q2; exact q2.elim
  | some kds =>
    rw [hk] at q2
    have q2 : Post G (E σ) ι S H (PV G Q) (if kds.length ≤ 1000 then p_dK b (mergeD [] kds) S2 else .stuck) := q2
    by_cases hlen : kds.length ≤ 1000
    · rw [if_pos hlen] at q2
      obtain ⟨e1, e2⟩ := keyedK_rep h1 hk
      rw [e2] at h2
      have xx : Ext ι S H ι2 S2 H2 := x0.trans x2
      obtain ⟨H3, kvs, g, x3, R3, hH3, he3, hr3⟩ := puts_K hp (x2.zs p (.inr rfl)) vs kds [] [] H2 xx R2 hH rfl .nil e1 h2 (by simpa using hlen)
      exact ⟨H3, g, show_K R hp x3 R3 (x2.zs p (.inr rfl)) hH3 he3 hr3 q2⟩
    · rw [if_neg hlen] at q2
      exact q2.elim
end
end DL
set_option Elab.async false
set_option linter.all false
set_option maxRecDepth 100000
set_option maxHeartbeats 4000000
/-! DLR: the end of a law; keywords -/
namespace DL
open PySem PySem.Spec PyProof.Rows L2
/-- the law's mirror gives True on every script -/
def Tells (n : Nat) (m : List D → Sto → Res D) : Prop := ∀ ns : List Int, ns.length ≤ n → (∀ z ∈ ns, Builtin.Int.intBits z ≤ 1048576) → ∃ S, m [.scr (ns.map D.int)] [] = .ok (.bl true) S
theorem scr_reps {G : Gx} {ι : Ix} {L : Addr → Prop} {H : Hp} : ∀ ns : List Int, Reps G ι L H (ns.map V.int) (ns.map D.int)
  | [] => .nil
  | n :: ns => .cons (.int n) (scr_reps ns)
theorem law_callD {G0 : Heap → Gx} {P : Program} {w : World} {K : PySem.W.Frag} {mg mb : Str → Option Value} {k : Nat} {fa a : Addr} {fd : FuncData} {x : Str} {m : Gx → List D → Sto → Res D} {s₁ : Shared} {vs : List Value} {ns : List Int}
    (hG : ∀ base, (G0 base).P = P ∧ (G0 base).w = w ∧ (G0 base).K = K ∧ (G0 base).mg = mg ∧ (G0 base).base = base)
    (KX : K.In s₁.heap) (hns : s₁.heap.Ns mainGlobals mg) (hb : s₁.heap.Ns builtinsNs mb) (hbb : ∀ x : Str, x ≠ "__name__" → mb x = bootBuiltins x) (hlim : s₁.heap.NoLimit) (hg : s₁.gens = #[])
    (ha : s₁.heap.get? a = some { cls := .type "list", data := .seq vs.toArray }) (hi : IntsAre vs ns) (hl : ns.length ≤ sizeLine) (hr : Room k callerA)
    (F : ∀ base : Heap, K.In base → base.Ns mainGlobals mg → FnB (G0 base) k fa fd [x] (m (G0 base))) (hbind : ∀ (s : Shared) (u : Value), BindsTo s fd ⟨[u], []⟩ [(x, u)])
    (hm : ∀ base, ∃ S, m (G0 base) [.scr (ns.map D.int)] [] = .ok (.bl true) S) :
    codeAny (model P w) callerA (.call (.ref fa) ⟨[.ref a], []⟩) (fun r s' => r = .ok (.ret (.bool true)) ∧ OldK s₁.heap s'.heap ∧ s'.os = s₁.os ∧ AllBare s'.gens) s₁ := by
  have rv := vals_ints hi
  have lenV := hi.length
  have core : ∀ H : Hp, Only H → SqL K H a (ns.map V.int) → HOk P w H s₁.heap → (∀ b, H b ≠ none → b = a) → (H a ≠ none → K.lookup a = none) →
      codeAny (model P w) callerA (.call (.ref fa) ⟨[.ref a], []⟩) (fun r s' => r = .ok (.ret (.bool true)) ∧ OldK s₁.heap s'.heap ∧ s'.os = s₁.os ∧ AllBare s'.gens) s₁ := by
    intro H hO hS hok hA hK
    have base_of : ∀ {b : Addr} {o : Obj}, s₁.heap.get? b = some o → H b = none → (hidT s₁.heap H).get? b = some o := fun e n => hidT_get e n
    have noA : ∀ {b : Addr} {o : Obj} {es : Array DictEntry} {ep : Nat}, s₁.heap.get? b = some o → o.data = .dict es ep → H b = none := fun {b o es ep} e d => by
      cases q : H b with
      | none => rfl
      | some u =>
        have e' : b = a := hA b (by rw [q]; simp)
        subst e'
        rw [ha] at e; cases e
        have d' : Data.seq vs.toArray _ = Data.dict es ep := d
        cases d'
    have nsK : ∀ {b : Addr} {m : Str → Option Value}, s₁.heap.Ns b m → (hidT s₁.heap H).Ns b m := fun {b m} ⟨o, es, ep, e, d, r⟩ => ⟨o, es, ep, base_of e (noA e d), d, r⟩
    have hKb : K.In (hidT s₁.heap H) := fun b o e => base_of (KX b o e) (by
      cases q : H b with
      | none => rfl
      | some u =>
        have e' : b = a := hA b (by rw [q]; simp)
        subst e'
        rw [hK (by rw [q]; simp)] at e; cases e)
    have hM : Mod K mg (hidT s₁.heap H) := ⟨hKb, nsK hns, ⟨mb, nsK hb, hbb⟩, let ⟨mc, h1, h2⟩ := hlim; ⟨mc, nsK h1, h2⟩⟩
    have e0 : Env0 P w K mg (hidT s₁.heap H) callerA [] s₁ H := ⟨rfl, hM, fun b o e => of_hidT e, Nat.le_of_eq (hidT_size _ _), trivial, fun b hb => absurd (show b ∈ ([] : List Addr) from hb) (by simp), hok, .of_eq hg⟩
    obtain ⟨g1, g2, g3, g4, g5⟩ := hG (hidT s₁.heap H)
    obtain ⟨S', hS'⟩ := hm (hidT s₁.heap H)
    have R : Rel (G0 (hidT s₁.heap H)) ⟨[], fun _ => False⟩ [] H := ⟨rfl, List.nodup_nil, fun n c h => by simp at h, fun a h => by simp at h, fun a h => h.elim⟩
    have nl : ¬ Lv ⟨[], fun _ => False⟩ [] a := fun z => by
      rcases z with ⟨n, c, h1, _⟩ | z
      · simp at h1
      · exact z
    have rs : Rep (G0 (hidT s₁.heap H)) ⟨[], fun _ => False⟩ (Lv ⟨[], fun _ => False⟩ []) H (.ref a) (.scr (ns.map D.int)) := by
      refine .scr ?_ (scr_reps ns)
      rcases hS with q | q
      · exact .inl ⟨q, nl⟩
      · exact .inr (by rw [g3]; exact q)
    have e1 : Env0 (G0 (hidT s₁.heap H)).P (G0 (hidT s₁.heap H)).w (G0 (hidT s₁.heap H)).K (G0 (hidT s₁.heap H)).mg (G0 (hidT s₁.heap H)).base callerA [] s₁ H := by
      rw [g1, g2, g3, g4, g5]
      exact e0
    have key := F _ hKb (nsK hns) callerA [] s₁ H ⟨[.ref a], []⟩ [.ref a] [.ref a] (fun v _ => v = .bl true) (fun _ _ _ => False) ⟨[], fun _ => False⟩ [] [.scr (ns.map D.int)] rfl hr e1 (hbind s₁ (.ref a)) (.cons rfl .nil) R (.cons rs .nil) rfl
      (by rw [hS']; exact fun ι' H' x R' v r => r.bl_of)
    rw [g1, g2] at key
    refine codeAny_mono key fun r s' h => ?_
    cases r with
    | error e =>
      obtain ⟨_, _, _, _, _, _, _, _, _, _, _, _, z⟩ := h
      exact z.elim
    | ok fl =>
      cases fl with
      | next => exact False.elim h
      | brk => exact False.elim h
      | cont => exact False.elim h
      | ret u =>
        obtain ⟨v, H', os, bare, un, hok', r', q⟩ := h
        have q' : v = .bl true := q
        subst q'
        obtain rfl : u = Value.bool true := r'
        refine ⟨rfl, OldK.of_keep fun b o e => ?_, os, bare⟩
        cases q : H b with
        | none => exact un.keep b o e q (by intro z; exact absurd (show b ∈ ([] : List Addr) from z) (by simp)) (by simp)
        | some u =>
          rcases hO b with z | ⟨ob, xs, z⟩
          · rw [q] at z; cases z
          · have z2 := un.frzs b ob _ z
            obtain ⟨e1, _⟩ := hok b _ z
            obtain ⟨e2, _⟩ := hok' b _ z2
            rw [e] at e1; cases e1
            exact e2
  cases hk : K.lookup a with
  | some o =>
    have e := KX a o hk
    rw [ha] at e
    cases e
    refine core (fun _ => none) (fun _ => .inl rfl) (.inr ⟨_, vs.toArray, _, hk, rfl, rfl, rfl, by rw [List.size_toArray, lenV]; exact hl, by simpa using rv⟩) (fun b u z => by have z' : (none : Option HO) = some u := z; cases z') (fun b z => absurd rfl z) fun z => absurd rfl z
  | none =>
    refine core (fun b => if b = a then some (.frz { cls := .type "list", data := .seq vs.toArray } (.lst (ns.map V.int))) else none) (fun b => ?_) (.inl (.inr ⟨{ cls := .type "list", data := .seq vs.toArray }, if_pos rfl⟩)) (fun b u z => ?_) (fun b z => ?_) fun _ => hk
    · by_cases hb : b = a
      · exact .inr ⟨_, _, if_pos hb⟩
      · exact .inl (if_neg hb)
    · by_cases hb : b = a
      · have z' := (if_pos hb).symm.trans z
        cases z'
        subst hb
        exact ⟨ha, by rw [List.length_map]; exact hl, vs, _, rv, ha⟩
      · have z' := (if_neg hb).symm.trans z
        cases z'
    · by_cases hb : b = a
      · exact hb
      · exact absurd (if_neg hb) z
/-- the goal that k_head leaves -/
theorem walk_dl {l : PySem.W.OpenLaw} {n k : Nat} {q : Program} {loose : List Str} {XP : (Str → Option Value) → Heap → Prop} {YP : World → Heap → Prop} {d : DefRec} {K : Params → PySem.W.Frag} {x : Str} {m : Gx → List D → Sto → Res D}
    (hn : l.most = some n) (hn2 : n ≤ sizeLine) (hdf : d.params.defaults = []) (hr : Room k callerA) (hY : ∀ (w : World) (h : Heap), YP w h → (K w.params).In h) (ht : ∀ G, Tells n (m G))
    (F : ∀ (w : World) (mg : Str → Option Value) (fa : Addr) (h : Heap), (K w.params).In h → h.Ns mainGlobals mg → mg d.name = some (.ref fa) →
      ∃ (fd : FuncData) (G0 : Heap → Gx), (∀ base, (G0 base).P = l.prog ∧ (G0 base).w = w ∧ (G0 base).K = K w.params ∧ (G0 base).mg = mg ∧ (G0 base).base = base) ∧ (∀ (s : Shared) (u : Value), BindsTo s fd ⟨[u], []⟩ [(x, u)]) ∧
        ∀ base : Heap, (K w.params).In base → base.Ns mainGlobals mg → FnB (G0 base) k fa fd [x] (m (G0 base))) :
    PySem.W.WalkO q loose XP YP l.row.toRowW d [] (fun f vs => PySem.call f vs) := by
  refine Att.attach_callB hn hdf fun w s₀ s₁ mg mb fa o pm cd doc a vs ns G Y ho hd hcd hmg hobj hints hlen hbits hg => ?_
  have KX := hY w _ Y
  obtain ⟨fd, G0, hG, hb, hF⟩ := F w mg fa _ KX G.T.g hmg
  exact law_callD hG KX G.T.g G.T.b G.T.builtins G.T.nolimit hg hobj hints (Nat.le_trans hlen hn2) hr hF hb fun base => ht (G0 base) ns hlen hbits
/-! ### keywords: places in the list of positional and keyword values -/
def gP {α : Type} (z : α) (perm : List Nat) (us ws : List α) : List α := perm.map fun i => (us ++ ws).getD i z
theorem gP_vals : ∀ {perm : List Nat} {vs zs : List V} {us ws : List Value}, Vals vs us → Vals zs ws → Vals (gP V.non perm vs zs) (gP Value.none perm us ws)
  | [], _, _, _, _, _, _ => .nil
  | i :: perm, vs, zs, us, ws, r, q => by
    refine .cons ?_ (gP_vals (perm := perm) r q)
    have rq := r.append q
    show RelV ((vs ++ zs).getD i V.non) ((us ++ ws).getD i Value.none)
    rw [List.getD_eq_getElem?_getD, List.getD_eq_getElem?_getD]
    cases e : (vs ++ zs)[i]? with
    | none =>
      have hl : (us ++ ws)[i]? = none := by
        rw [List.getElem?_eq_none_iff] at e ⊢
        rw [← rq.length]
        exact e
      rw [hl]
      exact rfl
    | some v =>
      obtain ⟨u, h1, h2⟩ := rq.get e
      rw [h1]
      exact h2
theorem gP_reps {G : Gx} {L : Addr → Prop} {ι : Ix} {H : Hp} : ∀ {perm : List Nat} {vs zs : List V} {ds es : List D}, Reps G ι L H vs ds → Reps G ι L H zs es → Reps G ι L H (gP V.non perm vs zs) (gP D.non perm ds es)
  | [], _, _, _, _, _, _ => .nil
  | i :: perm, vs, zs, ds, es, r, q => by
    refine .cons ?_ (gP_reps (perm := perm) r q)
    have rq := r.app q
    show Rep G ι L H ((vs ++ zs).getD i V.non) ((ds ++ es).getD i D.non)
    rw [List.getD_eq_getElem?_getD, List.getD_eq_getElem?_getD]
    cases e : (ds ++ es)[i]? with
    | none =>
      have hl : (vs ++ zs)[i]? = none := by
        rw [List.getElem?_eq_none_iff] at e ⊢
        rw [rq.length]
        exact e
      rw [hl]
      exact .non
    | some d =>
      obtain ⟨v, h1, h2⟩ := rq.get e
      rw [h1]
      exact h2
theorem fun_kbn {K : PySem.W.Frag} {x qual : Str} {st : Stmt} {f : Addr} {fd : FuncData} {ps ks : List Str} {n : Nat} {perm : List Nat} (F : Fun K x qual st f fd)
    (h : ∀ (kV doc pm : Value) (an : Option Addr) (cdv ct : Value) (us ws : List Value), us.length = n → ws.length = ks.length → bindArgs (PySem.W.fnOf x qual (defArgs st) (defBody st) (defScope st) .none kV doc pm an cdv ct) ⟨us, ks.zip ws⟩ = pure (ps.zip (gP Value.none perm us ws))) :
    KBn K fd ps n ks (gP Value.none perm) (gP V.non perm) := by
  obtain ⟨oc, od, kV, doc, pm, an, cdv, ct, osl, rfl, lk, hcd⟩ := F.ex
  exact ⟨fun s us ws _ h1 h2 => .of_eq (h _ _ _ _ _ _ us ws h1 h2), fun r q => gP_vals r q⟩
theorem gP_ok {G : Gx} {perm : List Nat} {n m' l : Nat} (hl : perm.length = l) : ∀ (L : Addr → Prop) (ι : Ix) (H : Hp) (vs : List V) (ds : List D) (zs : List V) (es : List D), Reps G ι L H vs ds → Reps G ι L H zs es → ds.length = n → es.length = m' → Reps G ι L H (gP V.non perm vs zs) (gP D.non perm ds es) ∧ (gP D.non perm ds es).length = l :=
  fun L ι H vs ds zs es r q _ _ => ⟨gP_reps r q, by unfold gP; rw [List.length_map]; exact hl⟩
/-! ### words for the printed derivations -/
section
variable {I : Type} {Xs : I → Cx} {G : Gx} {E : WK} {kk : Nat}
theorem eqD_at (F : FamH Xs G E) (j : I) : OpR (Xs j) (compareOp .Eq) (rEqD G.K) := by
  have z := op_eqD (X := Xs j) (F.hu64 j)
  rw [F.K j] at z
  exact z
theorem neD_at (F : FamH Xs G E) (j : I) : OpR (Xs j) (compareOp .NotEq) (rNeD G.K) := by
  have z := op_neD (X := Xs j) (F.hu64 j)
  rw [F.K j] at z
  exact z
theorem cr_allC (F : Fam Xs G E kk) (j : I) : CallR (Xs j) (.builtin "all") (rAll G.K) := by
  have z := cr_all (X := Xs j) (F.calm j)
  rw [F.K j] at z
  exact z
theorem call_reprC (F : FamH Xs G E) (j : I) : CallR (Xs j) (.builtin "repr") (rRepr G.K) := by
  have z := call_repr (X := Xs j) (F.gd j) (F.hu64 j)
  rw [F.K j] at z
  exact z
def p_addI : D → D → Sto → Res D
  | .int i, .int j, S => .ok (.int (i + j)) S
  | _, _, _ => .stuck
def c_fldS (c i : Nat) (o v : ECode) : SCode := fun ρ S => (v ρ S).bind fun z S0 => (o ρ S0).bind fun x S1 => (p_setF c i x z S1).bind fun _ S2 => .ok (.nx ρ) S2
end
theorem owns_fn {G : Gx} {k : Nat} {N : List Str} {qual : Str} {scope : Scope} {f : Addr} {E : XK} (j : FIdx k qual scope f) : PassesOwn (model (FnX G k N qual scope f E j).prog (FnX G k N qual scope f E j).w) (FnX G k N qual scope f E j).A (FnX G k N qual scope f E j).env (FnX G k N qual scope f E j).xe := passes_of rfl
/-! ### a, b, c = x, y, z -/
def c_par3 (i j l : Nat) (a b c : ECode) : SCode := fun ρ S => (a ρ S).bind fun x S1 => (b ρ S1).bind fun y S2 => (c ρ S2).bind fun z S3 => .ok (.nx (((ρ.set i (some x)).set j (some y)).set l (some z))) S3
section
variable {I : Type} {Xs : I → Cx} {G : Gx} {E : WK} {kk : Nat}
theorem ds_par3 (F : Fam Xs G E kk) {i j l : Nat} {x y z : Str} {a b c : Expr} {px py pz pt pos : Pos} {kt k2 pt2} {ca cb cc : ECode} (hi : ∀ q, (Xs q).N[i]? = some x) (hj : ∀ q, (Xs q).N[j]? = some y) (hl : ∀ q, (Xs q).N[l]? = some z) (hij : i ≠ j) (hil : i ≠ l) (hjl : j ≠ l)
    (hx : ∀ q, (Xs q).env.scope.names.lookup x = some .local) (hy : ∀ q, (Xs q).env.scope.names.lookup y = some .local) (hz : ∀ q, (Xs q).env.scope.names.lookup z = some .local) (ha : DE Xs G E a ca) (hb : DE Xs G E b cb) (hc : DE Xs G E c cc)
    (h1 : ∀ q, starEach [a, b, c] (Xs q).env = (false, eval a (Xs q).env) :: starEach [b, c] (Xs q).env) (h2 : ∀ q, starEach [b, c] (Xs q).env = (false, eval b (Xs q).env) :: starEach [c] (Xs q).env) (h3 : ∀ q, starEach [c] (Xs q).env = (false, eval c (Xs q).env) :: starEach [] (Xs q).env)
    (hw : ∀ q, swappedStores [.Tuple [.Name x px, .Name y py, .Name z pz] kt pt] (.Tuple [a, b, c] k2 pt2) (Xs q).env = pure (some [x, y, z]))
    (hs : ∀ q, swapsWithSole [.Tuple [.Name x px, .Name y py, .Name z pz] kt pt] (.Tuple [a, b, c] k2 pt2) pos.line (Xs q).env = pure false) :
    DS Xs G E (.Assign [.Tuple [.Name x px, .Name y py, .Name z pz] kt pt] (.Tuple [a, b, c] k2 pt2) pos) (c_par3 i j l ca cb cc) := by
  obtain ⟨ta, pa, sa⟩ := ha
  obtain ⟨tb, pb, sb⟩ := hb
  obtain ⟨tc, pc, sc⟩ := hc
  refine ⟨_, fun q => ps_par3 (F.calm q) (F.nd q) (hi q) (hj q) (hl q) hij hil hjl (hx q) (hy q) (hz q) (pa_cons (pa q) (pa_cons (pb q) (pa_cons (pc q) pa_nil (h3 q)) (h2 q)) (h1 q)) (hw q) (hs q), fun ι S H σ ρ Dn R e q => ?_⟩
  refine sa.go R e q fun d S1 ι1 H1 v x1 R1 e1 r1 q1 => ?_
  refine sb.go R1 e1 q1 fun d2 S2 ι2 H2 w x2 R2 e2 r2 q2 => ?_
  refine sc.go R2 e2 q2 fun d3 S3 ι3 H3 u x3 R3 e3 r3 q3 => ?_
  exact ⟨v, w, u, rfl, Post.here R3 q3 _ (((e3.set ((r1.mono x2).mono x3) i).set (r2.mono x3) j).set r3 l)⟩
end
end DL
set_option Elab.async false
set_option linter.all false
set_option maxRecDepth 100000
set_option maxHeartbeats 4000000
/-! DLX: o[i] op= e; methods and new instances by keywords -/
namespace DL
open PySem PySem.Spec PyProof.Rows L2
section
variable {I : Type} {Xs : I → Cx} {G : Gx} {E : WK} {kk k : Nat} {f : Addr} {fd : FuncData} {ps : List Str} {m : List D → Sto → Res D}
/-- an item of a list -/
def p_ixA (x y : D) (S : Sto) : Res D := match y with
  | .int i => match listOf x S with
    | some ds => p_ixL ds i S
    | none => .stuck
  | _ => .stuck
/-- o[i] op= e -/
def c_augS (p : D → D → Sto → Res D) (o i a : ECode) : SCode := fun ρ S => (o ρ S).bind fun x S1 => (i ρ S1).bind fun y S2 => (p_ixA x y S2).bind fun z S3 => (a ρ S3).bind fun w S4 => (p z w S4).bind fun r S5 => (p_setI x y r S5).bind fun _ S6 => .ok (.nx ρ) S6
/-- o.m(e, .., n = v, ..) -/
def c_methK (c n m' : Nat) (g : List D → List D → List D) (m : List D → Sto → Res D) (o : ECode) (a b : ACode) : ECode := fun ρ S => (o ρ S).bind fun x S1 => if clsOf x S1 = some c then (a ρ S1).bind fun ds S2 => (b ρ S2).bind fun es S3 => if ds.length = n ∧ es.length = m' then m (g (x :: ds) es) S3 else .stuck else .stuck
/-- C(n = v, ..) -/
noncomputable def c_makeK (b : Bool) (c m' : Nat) (g : List D → List D → List D) (m : List D → Sto → Res D) (a : ACode) : ECode := fun ρ S => (a ρ S).bind fun es S1 => if es.length = m' then p_make b c (fun ds => m (g (ds.take 1) (ds.drop 1))) es S1 else .stuck
/-- isinstance(o, C), o an instance of just this class -/
def p_isiO (c : Nat) (C : Addr) (ds : List D) (S : Sto) : Res D := match ds with
  | [d, .con a] => if isCon C (.con a) = true then (if clsOf d S = some c then .ok (.bl true) S else .stuck) else .stuck
  | _ => .stuck
end
end DL
set_option Elab.async false
set_option linter.all false
set_option maxRecDepth 100000
set_option maxHeartbeats 4000000
/-! DLY: is True -/
namespace DL
open PySem PySem.Spec PyProof.Rows L2
section
variable {G : Gx}
def p_isB (neg : Bool) : D → D → Sto → Res D
  | .bl a, .bl b, S => .ok (.bl (if neg = true then !decide (a = b) else decide (a = b))) S
  | _, _, _ => .stuck
@[simp] theorem v_isB {n : Bool} {a b : Bool} {S : Sto} : p_isB n (.bl a) (.bl b) S = .ok (.bl (if n = true then !decide (a = b) else decide (a = b))) S := rfl
end
end DL
set_option Elab.async false
set_option linter.all false
set_option maxRecDepth 100000
set_option maxHeartbeats 4000000
/-! DLW: list(range(..)), tuple(range(..)), range with steps, d.get(k, x), int, str, divmod, keyword calls of starred defs -/
namespace DL
open PySem PySem.Spec PyProof.Rows L2
section
variable {I : Type} {Xs : I → Cx} {G : Gx} {E : WK} {kk : Nat}
/-! ### list(range(..)), tuple(range(..)) -/
/-! ### range with a step -/
/-! ### d.get(k, x) -/
/-! ### int, str, divmod -/
def p_int (ds : List D) (S : Sto) : Res D := match ds with
  | [.int i] => .ok (.int i) S
  | [.bl k] => .ok (.int (if k then 1 else 0)) S
  | [.str a] => match PySem.intText? a with
    | some n => if a.length ≤ 640 then .ok (.int n) S else .stuck
    | none => .stuck
  | _ => .stuck
theorem call_intU {X : Cx} : CallR X (.type "int") (fun xs H Q => ((∃ i, xs = [.int i] ∧ Q (.int i) H) ∨ ∃ k, xs = [.bl k] ∧ Q (.int (if k then 1 else 0)) H) ∨ (∃ a n, xs = [.str a] ∧ PySem.intText? a = some n ∧ a.length ≤ 640 ∧ Q (.int n) H)) := call_int1.or call_int_str
theorem snd_intU : SndC G (fun xs H Q => ((∃ i, xs = [.int i] ∧ Q (.int i) H) ∨ ∃ k, xs = [.bl k] ∧ Q (.int (if k then 1 else 0)) H) ∨ (∃ a n, xs = [.str a] ∧ PySem.intText? a = some n ∧ a.length ≤ 640 ∧ Q (.int n) H)) p_int := fun E0 ι S H xs ds Q R rs q => by
  unfold p_int at q
  split at q
  · obtain ⟨v, rfl, rv⟩ := rs.one
    rw [rv.int_of]
    exact .inl (.inl ⟨_, rfl, Post.here R q _ (.int _)⟩)
  · obtain ⟨v, rfl, rv⟩ := rs.one
    rw [rv.bl_of]
    exact .inl (.inr ⟨_, rfl, Post.here R q _ (.int _)⟩)
  · obtain ⟨v, rfl, rv⟩ := rs.one
    rw [rv.str_of]
    split at q
    · rename_i n hn
      split at q
      · rename_i hl
        exact .inr ⟨_, n, rfl, hn, hl, Post.here R q _ (.int _)⟩
      · exact q.elim
    · exact q.elim
  · exact q.elim
def p_str (ds : List D) (S : Sto) : Res D := match ds with
  | [.int i] => if i.natAbs.log2 < 1920 then .ok (.str (toString i)) S else .stuck
  | [.str a] => .ok (.str a) S
  | _ => .stuck
theorem call_strU {X : Cx} : CallR X (.type "str") (fun xs H Q => (∃ i, xs = [.int i] ∧ i.natAbs.log2 < 1920 ∧ Q (.str (toString i)) H) ∨ ∃ a, xs = [.str a] ∧ Q (.str a) H) := call_str_int.or SkE.call_str_str
theorem snd_strU : SndC G (fun xs H Q => (∃ i, xs = [.int i] ∧ i.natAbs.log2 < 1920 ∧ Q (.str (toString i)) H) ∨ ∃ a, xs = [.str a] ∧ Q (.str a) H) p_str := fun E0 ι S H xs ds Q R rs q => by
  unfold p_str at q
  split at q
  · obtain ⟨v, rfl, rv⟩ := rs.one
    rw [rv.int_of]
    split at q
    · rename_i h
      exact .inl ⟨_, rfl, h, Post.here R q _ (.str _)⟩
    · exact q.elim
  · obtain ⟨v, rfl, rv⟩ := rs.one
    rw [rv.str_of]
    exact .inr ⟨_, rfl, Post.here R q _ (.str _)⟩
  · exact q.elim
end
/-! ### a starred def called by names alone -/
end DL
set_option Elab.async false
set_option linter.all false
set_option maxRecDepth 100000
set_option maxHeartbeats 4000000
/-! DL3V: comprehensions whose list is a cell -/
namespace DL
open PySem PySem.Spec PyProof.Rows L2
end DL
set_option Elab.async false
set_option linter.all false
set_option maxRecDepth 100000
set_option maxHeartbeats 4000000
/-! DLQ: errors of one's own -/
namespace DL
open PySem PySem.Spec PyProof.Rows L2
section
variable {X : Cx} {o e : Expr} {es : List Expr} {to te : TE} {ta : TA} {f : Str} {p p' p1 p2 pos : Pos}
/-- B.__init__(self, ..), B an own class whose __init__ is ValueError's -/
theorem pe_baseinit {pl : Sem Bool} {b : Str} {CE : Addr} {mc : Value} (hg : Gl X b) (hm : X.mg b = some (.ref CE)) (hdb : (b == ("__debug__" : Str)) = false) (hr : ClX.CRead X.K CE mc) (vV : PySem.W.findCls X.K (.ref CE) mc "__init__" = some (.val (.builtin "ValueError.__init__"))) (ha : PA X (e :: es) ta)
    (hc : eval (.Call (.Attribute (.Name b p1) "__init__" p2) (e :: es) [] pos) X.env = (do
      let ov ← eval (.Name b p1) X.env
      standAt p2.atName
      let (f, first) ← holding [ov] (getMethod ov "__init__" pl)
      callWith pos f first (backTo pos (starEach (e :: es) X.env)) (backToKw pos (keywordEach [] X.env))) := by rfl)
    (he : starEach (e :: es) X.env = (false, eval e X.env) :: starEach es X.env := by rfl) (hpl : (backTo pos (starEach es X.env)).any (·.1) = false := by rfl) :
    PE X (.Call (.Attribute (.Name b p1) "__init__" p2) (e :: es) [] pos) (tVeI X.K ta) := by
  refine ⟨fun pins s σ H Q I h => ?_⟩
  refine PySem.W.methodCall_KW (ld_glob I hg hm ?_ hdb) hc
  refine PySem.W.method_cls I.kIn hr.ga (PySem.W.cls_value I.kIn hr.rd vV (by decide +kernel) ?_)
  show wpAny _ _ (callWith pos (Value.builtin "ValueError.__init__") [] (backTo pos (starEach (e :: es) X.env)) []) _ _ _
  refine PyProof.Rows.callWith_method1 (thn (ha.run pos pins _ σ H _ (I.tok _) h) fun us s1 ⟨vs, H1, I1, r1, a, C, ws, ev, hl, T, ea, q⟩ => ?_) he hpl
  subst ev
  cases r1 with
  | @cons _ u0 _ ur ra rw' =>
    obtain rfl : u0 = Value.ref a := ra
    have hlen : ur.length ≤ sizeLine := by
      rw [← Paired.length rw', sizeLine_eq]
      omega
    exact oinit_ok T I1 ea hlen fun s' J => ⟨.non, H1, J, rfl, q⟩
end
/-- what the __init__ of an error class does: B.__init__(self, text); self.f = v -/
def spErr (K : PySem.W.Frag) (f : Str) : Sp := fun vs H Q _ => ∃ (a C : Addr) (y : V), vs = [.ref a, y] ∧ OexC K C ∧ PySem.W.findIn K (.ref C) f = some none ∧ H a = some (exo a C none) ∧
  ∀ dx, H dx = none → dx ≠ a → Q .non (upd (upd H dx (exd dx [(f, y)])) a (exo a C (some dx)))
theorem spErr_len {K : PySem.W.Frag} {f : Str} : ∀ vs H Q E, spErr K f vs H Q E → vs.length = 2 := fun vs H Q E ⟨a, C, y, e, _⟩ => by rw [e]; rfl
/-- the reading of its body -/
theorem err_body {K : PySem.W.Frag} {f : Str} {x : Str} {vs : List V} {H : Hp} {Q : VK} {E : XK} {N : List Str} (h : spErr K f vs H Q E) (hN : N.length = 2) :
    tSeq (tDrop (tVeI K (tCons (tVar 0) (tCons (fun σ H Q => Q (.str x) H) tNil)))) (tOst K f (tVar 0) (tVar 1)) { nx := fun _ H' => Q .non H', rt := Q } (L2.start N vs) H := by
  obtain ⟨a, C, y, rfl, T, no, ha, q⟩ := h
  have e0 : L2.start N [V.ref a, y] = [some (.ref a), some y] := by
    unfold L2.start
    rw [hN]
    rfl
  rw [e0]
  refine ⟨_, rfl, a, C, [.str x], rfl, (show (1 : Nat) ≤ 1000 by decide), T, ha, ?_⟩
  exact ⟨_, rfl, _, rfl, a, C, rfl, T, no, .inl ⟨ha, q⟩⟩
section
variable {I : Type} {Xs : I → Cx} {G : Gx} {E : WK} {kk : Nat}
/-- raise X(e) -/
def c_raise (c : Nat) (a : ECode) : SCode := fun ρ S => (a ρ S).bind fun d S1 => .ex c d S1
structure ErrT (G : Gx) (c : Nat) (fI : Addr) (fd : FuncData) (ps : List Str) : Prop where
  T : OexC G.K (G.exc c)
  iC : PySem.W.findIn G.K (.ref (G.exc c)) "__init__" = some (some (.ref fI))
  tI : PySem.W.typeIn G.K (.ref fI) = some (.type "function")
  no : PySem.W.findIn G.K (.ref (G.exc c)) (G.exf c) = some none
  F1 : FnOk G.P G.w G.K G.mg G.base CX0 1 fI fd ps (spErr G.K (G.exf c))
  hb : Binds G.K fd ps []
theorem ds_raise (F : Fam Xs G E kk) (hk : 2 ≤ kk) {c : Nat} {fI : Addr} {fd : FuncData} {ps : List Str} {x : Str} {e : Expr} {p pos pos' : Pos} {a : ECode} (t : ErrT G c fI fd ps) (hg : ∀ j, Gl (Xs j) x) (hm : G.mg x = some (.ref (G.exc c))) (ha : DE Xs G E e a)
    (hdb : (x == ("__debug__" : Str)) = false) (he : ∀ j, starEach [e] (Xs j).env = (false, eval e (Xs j).env) :: starEach [] (Xs j).env) (hpl : ∀ j, (backTo pos (starEach [] (Xs j).env)).any (·.1) = false) :
    DS Xs G E (.Raise (some (.Call (.Name x p) [e] [] pos)) none pos') (c_raise c a) := by
  obtain ⟨ta, pa, sa⟩ := ha
  refine ⟨fun _ σ H => tMkO (G.exc c) (spErr G.K (G.exf c)) [] (tCons ta tNil) σ H fun cls d H' => E σ cls d H', fun j => ?_, fun ι S H σ ρ Dn R e q => ?_⟩
  · have F1 : FnOk (Xs j).prog (Xs j).w (Xs j).K (Xs j).mg (Xs j).base CX0 1 fI fd ps (spErr G.K (G.exf c)) := by
      rw [F.P j, F.w j, F.K j, F.mg j, F.base j]
      exact t.F1
    have z := pmk_oex (X := Xs j) (CX := CX0) (p := p) (pos := pos) (x := x) (C := G.exc c) (fI := fI) (k := 1) (dvs := []) (ds := []) (by rw [F.K j]; exact t.T) (by rw [F.K j]; exact t.iC) (by rw [F.K j]; exact t.tI) F1 ((F.room j).mono hk) (by rw [F.K j]; exact t.hb) .nil pass0 (hg j) (by rw [F.mg j]; exact hm) (pa_cons (pa j) pa_nil (he j)) hdb (he j) (hpl j)
    exact ps_raise (F.calm j) (F.take j) z
  · refine sa.go R e q fun d S1 ι1 H1 y x1 R1 e1 r1 q1 => ?_
    refine ⟨(show (1 : Nat) ≤ 1000 by decide), fun a0 ha0 => ⟨a0, G.exc c, y, rfl, t.T, t.no, upd_same, fun dx hdx hne => ⟨rfl, dx, [(G.exf c, y)], upd_same, ?_, ?_, ?_⟩⟩⟩
    · rw [upd_ne hne]
      exact upd_same
    · rw [upd_ne hne] at hdx
      exact hdx
    · rw [upd_ne hne] at hdx
      have eH : upd (del (upd (upd (upd H1 a0 (exo a0 (G.exc c) none)) dx (exd dx [(G.exf c, y)])) a0 (exo a0 (G.exc c) (some dx))) a0) dx (.xd [(G.exf c, y)]) = upd H1 dx (.xd [(G.exf c, y)]) := by
        funext b
        by_cases h1 : b = dx
        · rw [h1, upd_same, upd_same]
        · rw [upd_ne h1, upd_ne h1]
          by_cases h2 : b = a0
          · rw [h2, del_same, ha0]
          · rw [del_ne h2, upd_ne h2, upd_ne h1, upd_ne h2]
      rw [eH]
      have x2 : Ext ι1 S1 H1 ι1 S1 (upd H1 dx (.xd [(G.exf c, y)])) := Ext.same (keepNew hdx)
      exact q1 ι1 _ dx y x2 (R1.same (keepNew hdx)) upd_same (R1.freshL hdx) (r1.mono x2)
end
end DL
set_option Elab.async false
set_option linter.all false
set_option maxRecDepth 100000
set_option maxHeartbeats 4000000
/-! DLT: try with one clause, what its suite asks of the error -/
namespace DL
open PySem PySem.Spec PyProof.Rows L2
mutual
def noErr : D → Bool
  | .tup ds => noErrL ds
  | .lst ds => noErrL ds
  | .scr ds => noErrL ds
  | .wtp ds => noErrL ds
  | .dK kvs => noErrK kvs
  | .dT kvs => noErrT kvs
  | .obj _ fs => noErrL fs
  | .err _ _ => false
  | .ref _ => true
  | .non => true
  | .bl _ => true
  | .int _ => true
  | .str _ => true
  | .con _ => true
  | .ty _ => true
def noErrL : List D → Bool
  | [] => true
  | d :: ds => noErr d && noErrL ds
def noErrK : List (Key × D) → Bool
  | [] => true
  | (_, d) :: ds => noErr d && noErrK ds
def noErrT : List (List Key × D) → Bool
  | [] => true
  | (_, d) :: ds => noErr d && noErrT ds
end
theorem noErrK_map : ∀ {kvs : List (Key × D)}, noErrK kvs = noErrL (kvs.map (·.2))
  | [] => rfl
  | (k, d) :: r => by rw [noErrK, List.map_cons, noErrL, noErrK_map]
theorem noErrT_map : ∀ {kvs : List (List Key × D)}, noErrT kvs = noErrL (kvs.map (·.2))
  | [] => rfl
  | (k, d) :: r => by rw [noErrT, List.map_cons, noErrL, noErrT_map]
def noErrC : Cell → Bool
  | .lst ds => noErrL ds
  | .dK kvs => noErrK kvs
  | .dT kvs => noErrT kvs
  | .ins _ fs => noErrL fs
/-- where an error is being handled -/
def Gx.hot (G : Gx) (a dx C : Addr) : Gx := { G with cur := some (a, dx, C) }
section
variable {G : Gx} {ι : Ix} {L : Addr → Prop} {H : Hp} {a dx C : Addr}
mutual
theorem Rep.noErr (h : G.cur = none) : ∀ {v : V} {d : D}, Rep G ι L H v d → DL.noErr d = true
  | _, _, .non => rfl
  | _, _, .bl b => rfl
  | _, _, .int i => rfl
  | _, _, .str x => rfl
  | _, _, .con a => rfl
  | _, _, .ty n => rfl
  | _, _, .tup q k r => Reps.noErr h r
  | _, _, .wtp q r => Reps.noErr h r
  | _, _, .lst q k r => Reps.noErr h r
  | _, _, .scr q r => Reps.noErr h r
  | _, _, .dK q k e r => noErrK_map.trans (Reps.noErr h r)
  | _, _, .dT q k e r => noErrT_map.trans (Reps.noErr h r)
  | _, _, .obj q k e r => Reps.noErr h r
  | _, _, .ref q => rfl
  | _, _, .err q1 q2 k r => by rw [h] at q1; cases q1
theorem Reps.noErr (h : G.cur = none) : ∀ {vs : List V} {ds : List D}, Reps G ι L H vs ds → noErrL ds = true
  | _, _, .nil => rfl
  | _, _, .cons q r => by rw [noErrL, Rep.noErr h q, Reps.noErr h r]; rfl
end
mutual
theorem Rep.hot (h : G.cur = none) : ∀ {v : V} {d : D}, Rep G ι L H v d → Rep (G.hot a dx C) ι L H v d
  | _, _, .non => .non
  | _, _, .bl b => .bl b
  | _, _, .int i => .int i
  | _, _, .str x => .str x
  | _, _, .con a => .con a
  | _, _, .ty n => .ty n
  | _, _, .tup q k r => .tup q k (Reps.hot h r)
  | _, _, .wtp q r => .wtp q (Reps.hot h r)
  | _, _, .lst q k r => .lst q k (Reps.hot h r)
  | _, _, .scr q r => .scr q (Reps.hot h r)
  | _, _, .dK q k e r => .dK q k e (Reps.hot h r)
  | _, _, .dT q k e r => .dT q k e (Reps.hot h r)
  | _, _, .obj q k e r => .obj q k e (Reps.hot h r)
  | _, _, .ref q => .ref q
  | _, _, .err q1 q2 k r => by rw [h] at q1; cases q1
theorem Reps.hot (h : G.cur = none) : ∀ {vs : List V} {ds : List D}, Reps G ι L H vs ds → Reps (G.hot a dx C) ι L H vs ds
  | _, _, .nil => .nil
  | _, _, .cons q r => .cons (Rep.hot h q) (Reps.hot h r)
end
mutual
theorem Rep.cold : ∀ {v : V} {d : D}, DL.noErr d = true → Rep (G.hot a dx C) ι L H v d → Rep G ι L H v d
  | _, _, _, .non => .non
  | _, _, _, .bl b => .bl b
  | _, _, _, .int i => .int i
  | _, _, _, .str x => .str x
  | _, _, _, .con a => .con a
  | _, _, _, .ty n => .ty n
  | _, _, n, .tup q k r => .tup q k (Reps.cold n r)
  | _, _, n, .wtp q r => .wtp q (Reps.cold n r)
  | _, _, n, .lst q k r => .lst q k (Reps.cold n r)
  | _, _, n, .scr q r => .scr q (Reps.cold n r)
  | _, _, n, .dK q k e r => .dK q k e (Reps.cold (noErrK_map.symm.trans n) r)
  | _, _, n, .dT q k e r => .dT q k e (Reps.cold (noErrT_map.symm.trans n) r)
  | _, _, n, .obj q k e r => .obj q k e (Reps.cold n r)
  | _, _, _, .ref q => .ref q
  | _, _, n, .err q1 q2 k r => by cases n
theorem Reps.cold : ∀ {vs : List V} {ds : List D}, noErrL ds = true → Reps (G.hot a dx C) ι L H vs ds → Reps G ι L H vs ds
  | _, _, _, .nil => .nil
  | _, _, n, .cons q r => by
    rw [noErrL, Bool.and_eq_true] at n
    exact .cons (Rep.cold n.1 q) (Reps.cold n.2 r)
end
theorem CellIs.noErr (h : G.cur = none) {x : Addr} {c : Cell} (k : CellIs G ι L H x c) : noErrC c = true := by
  cases c with
  | lst ds => obtain ⟨vs, _, r⟩ := k; exact r.noErr h
  | dK ds => obtain ⟨vs, _, _, r⟩ := k; exact noErrK_map.trans (r.noErr h)
  | dT ds => obtain ⟨vs, _, _, r⟩ := k; exact noErrT_map.trans (r.noErr h)
  | ins c fs => obtain ⟨_, vs, _, _, r⟩ := k; exact r.noErr h
theorem CellIs.hot (h : G.cur = none) {x : Addr} {c : Cell} (k : CellIs G ι L H x c) : CellIs (G.hot a dx C) ι L H x c := by
  cases c with
  | lst ds => obtain ⟨vs, h1, r⟩ := k; exact ⟨vs, h1, r.hot h⟩
  | dK ds => obtain ⟨vs, h1, h2, r⟩ := k; exact ⟨vs, h1, h2, r.hot h⟩
  | dT ds => obtain ⟨vs, h1, h2, r⟩ := k; exact ⟨vs, h1, h2, r.hot h⟩
  | ins c fs => obtain ⟨d0, vs, h1, h2, r⟩ := k; exact ⟨d0, vs, h1, h2, r.hot h⟩
theorem CellIs.cold {x : Addr} {c : Cell} (n : noErrC c = true) (k : CellIs (G.hot a dx C) ι L H x c) : CellIs G ι L H x c := by
  cases c with
  | lst ds => obtain ⟨vs, h1, r⟩ := k; exact ⟨vs, h1, r.cold n⟩
  | dK ds => obtain ⟨vs, h1, h2, r⟩ := k; exact ⟨vs, h1, h2, r.cold (noErrK_map.symm.trans n)⟩
  | dT ds => obtain ⟨vs, h1, h2, r⟩ := k; exact ⟨vs, h1, h2, r.cold (noErrT_map.symm.trans n)⟩
  | ins c fs => obtain ⟨d0, vs, h1, h2, r⟩ := k; exact ⟨d0, vs, h1, h2, r.cold n⟩
theorem Rel.hot {S : Sto} (h : G.cur = none) (R : Rel G ι S H) : Rel (G.hot a dx C) ι S H := by
  refine ⟨R.len, R.nd, fun n c e => ?_, R.trk, R.ztr⟩
  obtain ⟨x, h1, h2⟩ := R.cell n c e
  exact ⟨x, h1, h2.hot h⟩
theorem Rel.cold {S : Sto} (n : ∀ (m : Nat) (c : Cell), S[m]? = some (some c) → noErrC c = true) (R : Rel (G.hot a dx C) ι S H) : Rel G ι S H := by
  refine ⟨R.len, R.nd, fun m c e => ?_, R.trk, R.ztr⟩
  obtain ⟨x, h1, h2⟩ := R.cell m c e
  exact ⟨x, h1, h2.cold (n m c e)⟩
end
/-! ### the families of contexts -/
structure TrIdx {I : Type} (Xs : I → Cx) (E : WK) where
  j : I
  pn : List (Addr × Obj)
  xe : Value → Shared → Prop
  tk : Takes ((Xs j).tr pn xe) fun cls d σ H => E σ cls d H
abbrev TrX {I : Type} (Xs : I → Cx) (E : WK) : TrIdx Xs E → Cx := fun p => (Xs p.j).tr p.pn p.xe
structure SuIdx (I : Type) (dx C : Addr) where
  j : I
  oe : Obj
  pn : List (Addr × Obj)
  hz : Zc (.ref C) (some dx) oe
  hf : ∃ vs, oe.data = .fields vs
abbrev SuX {I : Type} (Xs : I → Cx) (a dx C : Addr) : SuIdx I dx C → Cx := fun p => (Xs p.j).suite a ((a, p.oe) :: p.pn)
section
variable {I : Type} {Xs : I → Cx} {G : Gx} {E : WK} {kk : Nat}
theorem Fam.tr (F : Fam Xs G E kk) (E' : WK) : Fam (TrX Xs E') G E' kk :=
  ⟨⟨fun p => F.P p.j, fun p => F.w p.j, fun p => F.K p.j, fun p => F.mg p.j, fun p => F.base p.j, fun p => F.nd p.j, fun p => F.gd p.j, fun p => F.u64 p.j, fun p => p.tk⟩, fun p => F.calm p.j, fun p => F.room p.j⟩
theorem FamH.su (F : FamH Xs G E) (a dx C : Addr) : FamH (SuX Xs a dx C) (G.hot a dx C) (fun _ => E0) :=
  ⟨fun p => F.P p.j, fun p => F.w p.j, fun p => F.K p.j, fun p => F.mg p.j, fun p => F.base p.j, fun p => F.nd p.j, fun p => F.gd p.j, fun p => F.u64 p.j, fun p => takes0⟩
/-! ### try -/
def envOk (ρ ρ2 : Env) : Prop := ∀ (j : Nat) (d : D), ρ2[j]? = some (some d) → ρ[j]? = some (some d) ∨ noErr d = true
def floEnd (i : Nat) : Flo → Flo
  | .nx ρ => .nx (ρ.set i none)
  | .bk ρ => .bk (ρ.set i none)
  | .ct ρ => .ct (ρ.set i none)
  | .rt d => .rt d
def floOk (ρ : Env) (i : Nat) : Flo → Prop
  | .nx ρ2 => envOk ρ (ρ2.set i none)
  | .bk ρ2 => envOk ρ (ρ2.set i none)
  | .ct ρ2 => envOk ρ (ρ2.set i none)
  | .rt d => noErr d = true
open Classical in
noncomputable def c_try (m : Nat → Option Bool) (i : Nat) (cb cs : SCode) : SCode := fun ρ S => match cb ρ S with
  | .ex c d S1 => match m c with
    | some true => match cs (ρ.set i (some (.err c d))) S1 with
      | .ok f S2 => if S2 = S1 ∧ floOk ρ i f then .ok (floEnd i f) S2 else .stuck
      | _ => .stuck
    | some false => .ex c d S1
    | none => .stuck
  | r => r
theorem REnv.cold {ι : Ix} {S : Sto} {H : Hp} {a dx C : Addr} {σ : L2.St} {ρ : Env} {i : Nat} (n : ∀ (j : Nat) (d : D), (ρ.set i none)[j]? = some (some d) → noErr d = true) (e : REnv (G.hot a dx C) ι S H σ ρ) : REnv G ι S H (σ.set i none) (ρ.set i none) := by
  refine ⟨by rw [List.length_set, List.length_set]; exact e.len, fun j d q => ?_⟩
  have hn := n j d q
  rw [List.getElem?_set] at q ⊢
  by_cases hi : i = j
  · rw [if_pos hi] at q
    split at q <;> cases q
  · rw [if_neg hi] at q ⊢
    obtain ⟨v, h1, h2⟩ := e.at_ j d q
    exact ⟨v, h1, h2.cold hn⟩
theorem ds_try (F : Fam Xs G E kk) (hG : G.cur = none) {x n : Str} {cv : Value} {i : Nat} {body suite : List Stmt} {b₀ : Stmt} {np pos pos' : Pos} {m : Nat → Option Bool} {cb cs : SCode}
    (hi : ∀ j, (Xs j).N[i]? = some n) (hln : ∀ j, (Xs j).env.kindOf n = some .local) (hs : ∀ j, (Xs j).stack = (Xs j).env :: (Xs j).outer) (hf : ∀ j, (Xs j).env.frame = some (Xs j).env.locals) (hc : ∀ j, Names (Xs j) x cv)
    (hm : ∀ c b, m c = some b → PySem.W.exmOne G.K (.ref (G.exc c)) cv = some b)
    (hb : ∀ (E' : WK), Fam (TrX Xs E') G E' kk → DSs (TrX Xs E') G E' body cb)
    (hsu : ∀ a dx C, FamH (SuX Xs a dx C) (G.hot a dx C) (fun _ => E0) → DSs (SuX Xs a dx C) (G.hot a dx C) (fun _ => E0) (b₀ :: suite) cs) :
    DS Xs G E (.Try body [.ExceptHandler (some (.Name x np)) (some n) (b₀ :: suite) pos'] [] [] pos) (c_try m i cb cs) := by
  have hb' : ∀ W : WX, DSs (TrX Xs fun σ cls d H => W cls d σ H) G (fun σ cls d H => W cls d σ H) body cb := fun W => hb _ (F.tr _)
  have hsu' : ∀ a dx C, DSs (SuX Xs a dx C) (G.hot a dx C) (fun _ => E0) (b₀ :: suite) cs := fun a dx C => hsu a dx C (F.toFamH.su a dx C)
  let tb : WX → TS := fun W => Classical.choose (hb' W)
  let ts : Addr → Value → Option Addr → TS := fun a cls d => match cls, d with
    | .ref C, some dx => Classical.choose (hsu' a dx C)
    | _, _ => fun _ _ _ => False
  refine ⟨fun D σ H => tb (wAs G.K cv i ts (fun cls d σ H => E σ cls d H) D) D σ H, fun j => ?_, fun ι S H σ ρ Dn R e q => ?_⟩
  · have z := ps_try_as (X := Xs j) (np := np) (pos := pos) (pos' := pos') (tb := tb) (ts := ts) (hs j) (hf j) (F.nd j) (hi j) (hln j) (hc j) (F.take j) (fun W pn xe tk _ => (Classical.choose_spec (hb' W)).1 ⟨j, pn, xe, tk⟩) (body := body) (b₀ := b₀) (suite := suite) (fun a oe cls d pn hz hfl => ?_)
    · rw [F.K j] at z
      exact z
    · cases cls with
      | ref C =>
        cases d with
        | some dx => exact (Classical.choose_spec (hsu' a dx C)).1 ⟨j, oe, pn, hz, hfl⟩
        | none => exact ⟨fun _ _ _ _ _ _ h => h.elim⟩
      | _ => exact ⟨fun _ _ _ _ _ _ h => h.elim⟩
  · have sp := (Classical.choose_spec (hb' (wAs G.K cv i ts (fun cls d σ H => E σ cls d H) Dn))).2
    refine sp ι S H σ ρ Dn R e ?_
    unfold c_try at q
    cases hcb : cb ρ S with
    | ok f S1 =>
      rw [hcb] at q
      exact q
    | stuck =>
      rw [hcb] at q
      exact q
    | ex c d S1 =>
      rw [hcb] at q
      intro ι' H' dd v x' R' hdd nl rv
      cases hmc : m c with
      | none => simp only [hmc] at q; exact q.elim
      | some b =>
        simp only [hmc] at q
        refine ⟨b, hm c b hmc, fun hbt a ha => ?_, fun hbf => ?_⟩
        · subst hbt
          show Classical.choose (hsu' a dd (G.exc c)) _ _ _
          have sps := (Classical.choose_spec (hsu' a dd (G.exc c))).2
          have Rh : Rel (G.hot a dd (G.exc c)) ι' S1 H' := R'.hot hG
          have rerr : Rep (G.hot a dd (G.exc c)) ι' (Lv ι' S1) H' (.ref a) (.err c d) := .err rfl hdd nl (rv.hot hG)
          have eh : REnv (G.hot a dd (G.exc c)) ι' S1 H' σ ρ := by
            have e1 := e.mono x'
            exact ⟨e1.len, fun j d q => by
              obtain ⟨w, h1, h2⟩ := e1.at_ j d q
              exact ⟨w, h1, h2.hot hG⟩⟩
          refine sps ι' S1 H' (σ.set i (some (.ref a))) (ρ.set i (some (.err c d))) _ Rh (eh.set rerr i) ?_
          cases hcs : cs (ρ.set i (some (.err c d))) S1 with
          | ex _ _ _ => simp only [hcs] at q; exact q.elim
          | stuck => simp only [hcs] at q; exact q.elim
          | ok f S2 =>
            simp only [hcs] at q
            by_cases hk : S2 = S1 ∧ floOk ρ i f
            · rw [if_pos hk] at q
              obtain ⟨rfl, hfo⟩ := hk
              intro ι2 H2 y R2
              have cells : ∀ (m : Nat) (c : Cell), S2[m]? = some (some c) → noErrC c = true := fun m c hmc => by
                obtain ⟨_, _, k⟩ := R'.cell m c hmc
                exact k.noErr hG
              have Rc : Rel G ι2 S2 H2 := R2.cold cells
              have q2 := q ι2 H2 (x'.trans y) Rc
              have slots : ∀ {ρ2 : Env}, envOk ρ (ρ2.set i none) → ∀ (j : Nat) (d : D), (ρ2.set i none)[j]? = some (some d) → noErr d = true := fun ho j d hj => by
                rcases ho j d hj with h | h
                · obtain ⟨w, _, h2⟩ := e.at_ j d h
                  exact h2.noErr hG
                · exact h
              cases f with
              | nx ρ2 => exact fun σ2 e2 => q2 _ (e2.cold (slots hfo))
              | bk ρ2 => exact fun σ2 e2 => q2 _ (e2.cold (slots hfo))
              | ct ρ2 => exact fun σ2 e2 => q2 _ (e2.cold (slots hfo))
              | rt d2 => exact fun w rw' => q2 w (rw'.cold hfo)
            · rw [if_neg hk] at q
              exact q.elim
        · subst hbf
          exact q ι' H' dd v x' R' hdd nl rv
end
end DL
set_option Elab.async false
set_option linter.all false
set_option maxRecDepth 100000
set_option maxHeartbeats 4000000
/-! DLU: what a suite asks of the error that it holds; kin_classD, kitx_excD: lines of a proof of the library, for errors with a dict -/
namespace DLE1
open PySem PySem.W PySem.Spec PySem.Calls PyProof.Rows
section
variable {prog : Program} {w : World} {A : Around} {E : Value → Shared → Prop} {s : Shared} {K : Frag} {x D : Addr} {ox : Obj}
theorem findObj_dataD {od : Option Obj} {C : Addr} {name : Str} {a g : Value} (hc : (clsIn K C).isSome = true) (ha : findIn K (.ref C) name = some (some a)) (hg : specialIn K a "__get__" = some (some g)) (ht : takesIn K a = some true) : findObj K C od name = some (.bind g a) := by
  obtain ⟨cd, hc⟩ := Option.isSome_iff_exists.mp hc
  unfold findObj
  rw [hc, Option.bind_some, ha, Option.bind_some]
  simp [hg, ht]
theorem kin_classD {od : Option Obj} {Q : Option Value → Shared → Prop} (hga : findIn K (.ref D) "__getattribute__" = some (some (.builtin "BaseException.__getattribute__"))) (hgt : findIn K (.ref D) "__getattr__" = some none) (hsub : subIn K (.ref D) (.type "BaseException") = some true)
    (hdct : hasDictIn K D = true) (ha : findIn K (.ref D) "__class__" = some (some (.builtin "object.__class__")))
    (hn : specialIn K (.builtin "object.__class__") "__get__" = some (some (.builtin "getset_descriptor.__get__"))) (htk : takesIn K (.builtin "object.__class__") = some true) (hm : mroIn K D (.type "object") = some true)
    (X : K.In s.heap) (I : InstAt s.heap x ox D od) (h : Q (some (.ref D)) { s with toks := s.toks + 1 }) : wpAny (model prog w) A (getAttr? (.ref x) "__class__") Q E s := by
  have hf : findObj K D od "__class__" = some (.bind (.builtin "getset_descriptor.__get__") (.builtin "object.__class__")) := findObj_dataD (by obtain ⟨cd, hc, _⟩ := any_some hdct; rw [hc]; rfl) ha hn htk
  obtain ⟨hp, g, d, t, os⟩ := s
  have L0 := I.type (M := model prog w)
  have L1 := looks_findIn (M := model prog w) X hga
  have L2 := looks_findIn (M := model prog w) X hgt
  have L3 := looks_find (M := model prog w) X I hf
  have sub : Looks (model prog w) hp (isInstance (.ref x) (.type "BaseException")) true := L0.andThen (looks_subIn X hsub)
  have hx0 : (false && onTheHeap (Value.builtin "BaseException.__getattribute__")) = false := rfl
  have hx2 : (Value.builtin "BaseException.__getattribute__" == Value.builtin "object.__getattribute__") = false := by decide +kernel
  have hx1 : (onTheHeap (Value.ref D) && Value.builtin "BaseException.__getattribute__" == Value.builtin "object.__getattribute__") = false := by rw [hx2]; rfl
  unfold getAttr? getAttrBy? getAttrBy
  refine wpAny_bind (wpAny_mkText (wpAny_bind (wpAny_attempt (wpAny_holding (wpAny_bind (L0.at (wpAny_bind (L1.at ?_))))))))
  show wpAny _ _ (if (onTheHeap (Value.ref D) && Value.builtin "BaseException.__getattribute__" == Value.builtin "object.__getattribute__") = true then _ else _) _ _ _
  rw [hx1, if_neg Bool.false_ne_true]
  unfold getAttrByItsOwn hookBefore
  refine wpAny_bind ?_
  rw [if_pos (show onTheHeap (Value.ref D) = true from rfl)]
  refine L2.at ?_
  refine wpAny_bind (wpAny_attempt (wpAny_holding ?_))
  unfold callGetattribute
  rw [hx0, if_neg Bool.false_ne_true]
  unfold boundAndCalled
  rw [PySem.F.excAttr_ValueError.ga.bind (.ref x)]
  refine wpAny_bind (wpAny_pure ?_)
  show wpAny _ _ (call (.builtin "BaseException.__getattribute__") [.ref x, .str "__class__" t]) _ _ _
  refine wpAny_call (codeAny_call_builtin PySem.F.excAttr_ValueError.ga.plain PySem.F.entry_bexc_ga ?_)
  refine @check_slot (model prog w) _ _ ⟨hp, g, d, t + 1, os⟩ "BaseException.__getattribute__" "BaseException" "__getattribute__" (.ref x) [.str "__class__" t] [] _ (by decide +kernel) (by decide +kernel) sub (PySem.F.args_bexc_ga (.ref x) (.str "__class__" t)) ?_
  unfold Builtin.«object.__getattribute__»
  refine wpAny_bind (wpAny_of_eq (a := ((Value.ref x : Value), [Value.str "__class__" t])) (by first | rfl | (simp only [slotArgs]; rfl)) ?_)
  refine wpAny_bind (wpAny_pure (wpAny_bind (L0.at (wpAny_bind (L3.at ?_)))))
  show wpAny _ _ (holding [Value.builtin "object.__class__"] (call (.builtin "getset_descriptor.__get__") [.builtin "object.__class__", .ref x, .ref D]) >>= ret) _ _ _
  refine wpAny_bind (wpAny_holding (wpAny_call (class_get (s := ⟨hp, g, d, t + 1, os⟩) (ox := ox) (od := od) X I hm ?_)))
  refine wpAny_pure ?_
  show wpAny _ _ (handedOut (.ref D)) _ _ _
  rw [handedOut_of (v := .ref D) rfl]
  first
    | exact wpAny_pure (wpAny_pure h)
    | exact wpAny_pure h
    | exact wpAny_pure (wpAny_bind (wpAny_pure (wpAny_pure h)))
theorem kitx_excD {od : Option Obj} (hga : findIn K (.ref D) "__getattribute__" = some (some (.builtin "BaseException.__getattribute__"))) (hgt : findIn K (.ref D) "__getattr__" = some none) (hsub : subIn K (.ref D) (.type "BaseException") = some true) (hdct : hasDictIn K D = true) (ha : findIn K (.ref D) "__class__" = some (some (.builtin "object.__class__")))
    (hn : specialIn K (.builtin "object.__class__") "__get__" = some (some (.builtin "getset_descriptor.__get__"))) (htk : takesIn K (.builtin "object.__class__") = some true) (hm : mroIn K D (.type "object") = some true) :
    KitX K (.ref x) (.ref D) (fun h => InstAt h x ox D od) where
  ty := fun _ _ _ I => I.type
  it := fun _ _ X _ => by
    obtain ⟨cdD, hcD, _⟩ := any_some hdct
    unfold clsIn at hcD
    split at hcD
    · rename_i c' d' cd' sl' ho
      intro A' Q' E' s' k q
      unfold isType loadHead
      exact wpAny_bind (wpAny_loadPart (k _ _ (X _ _ ho)) (wpAny_pure q))
    · cases hcD
  ne := fun h tp dd its n sl X htp => by
    obtain ⟨cdD, hcD, _⟩ := any_some hdct
    refine Bool.eq_false_iff.mpr fun q => ?_
    have e : D = tp := Value.ref.inj (beq_iff_eq.mp q)
    subst e
    unfold clsIn at hcD
    split at hcD
    · rename_i c' d' cd' sl' ho
      have z := (X _ _ ho).symm.trans htp
      cases z
    · cases hcD
  ca := fun X I k => kin_classD hga hgt hsub hdct ha hn htk hm X I k
end
end DLE1
namespace DL
open PySem PySem.Spec PyProof.Rows L2
/-- isinstance(e, c), e the error that the suite holds, of class C -/
def rIsD (K : PySem.W.Frag) (C a : Addr) : List V → Hp → VK → Prop := fun xs H Q => ExcC K C ∧ ((∃ (c : V) (cv : Value) (b : Bool), xs = [.ref a, c] ∧ (∀ u, RelV c u → u = cv) ∧ PySem.W.kitOne K (.ref C) cv = some b ∧ Q (.bl b) H) ∨
  ∃ (t : Addr) (cs : List V) (cvs : List Value) (b : Bool), xs = [.ref a, .ref t] ∧ SqT K H t cs ∧ (∀ us, Vals cs us → us = cvs) ∧ PySem.W.kitAny K (.ref C) cvs = some b ∧ Q (.bl b) H)
theorem call_isD {X : Cx} {a C dx : Addr} {oe : Obj} {pn : List (Addr × Obj)} {fs : List (Str × V)} (hz : Zc (.ref C) (some dx) oe) (hf : ∃ vs, oe.data = .fields vs) :
    CallR (X.suite a ((a, oe) :: pn)) (.builtin "isinstance") (fun xs H Q => (∃ fs, H dx = some (.xd fs)) ∧ rIsD X.K C a xs H Q) := by
  intro pins s σ H xs us Q I r h
  obtain ⟨⟨fs, hx⟩, E, h⟩ := h
  obtain ⟨hget, _⟩ := I.pin (a, oe) (List.mem_append.mpr (.inl List.mem_cons_self))
  obtain ⟨vs, hv⟩ := hf
  have hx : ObjOk X.prog X.w H s.heap dx (.xd fs) := I.hok dx _ hx
  obtain ⟨mA, hns, hr⟩ := hx
  obtain ⟨od, ho, hl⟩ := lookIn_ns hns
  have J : PySem.W.InstAt s.heap a oe C (some od) := ⟨hget, hz.1, by unfold PySem.W.notCls; rw [hv] <;> rfl, by rw [hz.2]; exact ho⟩
  have Z := DLE1.kitx_excD (K := X.K) (x := a) (D := C) (ox := oe) (od := some od) E.hg E.hk E.hs E.hd E.ha E.hn E.ht E.hm
  rcases h with ⟨c, cv, b, rfl, hcv, e, q⟩ | ⟨t, cs, cvs, b, rfl, ht, hcv, e, q⟩
  · cases r with
    | cons rx rr =>
      cases rr with
      | cons rt rr =>
        cases rr
        cases rx
        have ec := hcv _ rt
        subst ec
        exact PySem.W.kia_one Z I.kIn J e (fun z => nomatch z) fun tk => ⟨.bl b, H, I.kept (t' := tk) fun _ _ z => z, rfl, q⟩
  · cases r with
    | cons rx rr =>
      cases rr with
      | cons rt rr =>
        cases rr
        cases rx
        cases rt
        obtain ⟨its, rv, ⟨o, ho2, hc2, n2, hd2⟩, _⟩ := I.tuple ht
        obtain rfl := hcv _ rv
        obtain ⟨c, d, dt, sl⟩ := o
        simp only at hc2 hd2
        subst hc2 hd2
        exact PySem.W.kia_tup Z I.kIn J ho2 e (fun z => nomatch z) fun tk => ⟨.bl b, H, I.kept (t' := tk) fun _ _ z => z, rfl, q⟩
section
variable {I : Type} {Xs : I → Cx} {G : Gx} {E : WK}
/-- a op1 b op2 c, as a test -/
theorem snd_chain {E : WK} {r r' : R2} {p p' : D → D → Sto → Res D} {ta tb tc : TE} {a b c : ECode} (hr : SndR G r p) (hr' : SndR G r' p') (sa : Snd G E ta a) (sb : Snd G E tb b) (sc : Snd G E tc c) : Snd G E (tChain r r' ta tb tc) (c_chain p p' a b c) := fun ι S H σ ρ Q R e q => by
  refine sa.go R e q fun d S1 ι1 H1 v x1 R1 e1 r1 q1 => ?_
  refine sb.go R1 e1 q1 fun d2 S2 ι2 H2 v2 x2 R2 e2 r2 q2 => ?_
  refine hr.go R2 (r1.mono x2) r2 q2 fun d3 S3 ι3 H3 v3 x3 R3 r3 q3 => ?_
  cases d3 with
  | bl k =>
    refine ⟨k, r3.bl_of, ?_⟩
    have q4 : Post G (E σ) ι3 S3 H3 (PV G Q) (if k = true then (c ρ S3).bind fun w S5 => p' d2 w S5 else .ok (.bl false) S3) := q3
    cases k with
    | true =>
      rw [if_pos rfl] at q4 ⊢
      refine sc.go R3 (e2.mono x3) q4 fun d5 S5 ι5 H5 v5 x5 R5 e5 r5 q5 => ?_
      exact hr' (E σ) ι5 S5 H5 v2 v5 d2 d5 Q R5 ((r2.mono x3).mono x5) r5 q5
    | false =>
      rw [if_neg Bool.false_ne_true] at q4 ⊢
      exact Post.here R3 q4 _ (.bl false)
  | _ => exact q3.elim
theorem dt_chain {op op' : CmpOp} {r r' : R2} {p p' : D → D → Sto → Res D} {x y z : Expr} {pos : Pos} {a b c : ECode} (ho : ∀ j, OpR (Xs j) (compareOp op) r) (hr : SndR G r p) (ho' : ∀ j, OpR (Xs j) (compareOp op') r') (hr' : SndR G r' p')
    (ha : DE Xs G E x a) (hb : DE Xs G E y b) (hc : DE Xs G E z c) (hm : lastMarks [op, op'] [y, z] = false) : DT Xs G E (.Compare x [op, op'] [y, z] pos) (c_test (c_chain p p' a b c)) := by
  obtain ⟨ta, pa, sa⟩ := ha
  obtain ⟨tb, pb, sb⟩ := hb
  obtain ⟨tc, pc, sc⟩ := hc
  exact ⟨_, fun j => pt_chain (ho j) (ho' j) (pa j) (pb j) (pc j) hm, snd_test (snd_chain hr hr' sa sb sc)⟩
end
/-! the library's two relations, of an own error and a class -/
theorem kit_own {K : PySem.W.Frag} {C X : Addr} {b : Bool} (hd : PySem.W.hasDictIn K X = true) (ht : PySem.W.typeIn K (.ref X) = some (.type "type")) (hs : PySem.W.subIn K (.ref C) (.ref X) = some b) (hx : PySem.W.subIn K (.ref X) (.ref X) = some true) : PySem.W.kitOne K (.ref C) (.ref X) = some b := by
  obtain ⟨cd, hc, _⟩ := PySem.W.any_some hd
  have e2 : ((PySem.W.clsIn K X).isSome && PySem.W.typeIn K (.ref X) == some (.type "type")) = true := by rw [hc, ht] <;> rfl
  unfold PySem.W.kitOne
  by_cases q : ((Value.ref C) == (Value.ref X)) = true
  · rw [if_pos q]
    have e : C = X := Value.ref.inj (beq_iff_eq.mp q)
    subst e
    rw [hx] at hs
    exact hs
  · rw [if_neg q]
    show (if ((PySem.W.clsIn K X).isSome && PySem.W.typeIn K (.ref X) == some (.type "type")) = true then PySem.W.subIn K (.ref C) (.ref X) else none) = some b
    rw [if_pos e2]
    exact hs
theorem kit_bi {K : PySem.W.Frag} {C : Addr} {T : String} {b : Bool} (hm : PySem.W.kitMeta T = true) (hs : PySem.W.subIn K (.ref C) (.type T) = some b) : PySem.W.kitOne K (.ref C) (.type T) = some b := by
  unfold PySem.W.kitOne
  have hn : ((Value.ref C) == (Value.type T)) = false := Bool.eq_false_iff.mpr fun q => by
    have e : Value.ref C = Value.type T := beq_iff_eq.mp q
    cases e
  rw [hn, if_neg Bool.false_ne_true]
  show (if PySem.W.kitMeta T = true then PySem.W.subIn K (.ref C) (.type T) else none) = some b
  rw [if_pos hm]
  exact hs
/-! the mirrors -/
def conV : D → Option Value
  | .con a => some (.ref a)
  | .ty n => some (.type n)
  | _ => none
def sameC : D → D → Bool
  | .con a, .con b => decide (a = b)
  | .ty m, .ty n => decide (m = n)
  | _, _ => false
def p_isE (Y : D) (tab : Nat → Option Bool) : List D → Sto → Res D := fun ds S => match ds with
  | [.err c _, y] => if sameC y Y = true then (match tab c with
    | some b => .ok (.bl b) S
    | none => .stuck) else .stuck
  | _ => .stuck
theorem con_rel {G : Gx} {ι : Ix} {L : Addr → Prop} {H : Hp} {v : V} {y Y : D} {cv : Value} (r : Rep G ι L H v y) (h : sameC y Y = true) (hY : conV Y = some cv) : ∀ u, RelV v u → u = cv := by
  cases y with
  | con a =>
    cases Y with
    | con b =>
      obtain rfl := of_decide_eq_true h
      cases hY
      cases r
      intro u ru
      exact ru
    | _ => cases h
  | ty m =>
    cases Y with
    | ty n =>
      obtain rfl := of_decide_eq_true h
      cases hY
      cases r
      intro u ru
      exact ru
    | _ => cases h
  | _ => cases h
section
variable {I : Type} {Xs : I → Cx} {G : Gx} {E : WK} {kk : Nat} {a dx C : Addr}
theorem err_at {ι : Ix} {L : Addr → Prop} {H : Hp} {v : V} {c : Nat} {d : D} (r : Rep (G.hot a dx C) ι L H v (.err c d)) : v = .ref a ∧ C = G.exc c ∧ ∃ w, H dx = some (.xd [(G.exf c, w)]) ∧ Rep (G.hot a dx C) ι L H w d := by
  cases r with
  | err q1 q2 k r =>
    have e := Option.some.inj q1
    have e1 := congrArg (fun z => z.1) e
    have e2 := congrArg (fun z => z.2.1) e
    have e3 := congrArg (fun z => z.2.2) e
    dsimp only at e1 e2 e3
    subst e1 e2
    exact ⟨rfl, e3, _, q2, r⟩
theorem call_isF (F : FamH Xs G E) (p : SuIdx I dx C) : CallR (SuX Xs a dx C p) (.builtin "isinstance") (fun xs H Q => (∃ fs, H dx = some (.xd fs)) ∧ rIsD G.K C a xs H Q) := by
  have z := call_isD (X := Xs p.j) (a := a) (C := C) (dx := dx) (oe := p.oe) (pn := p.pn) (fs := []) p.hz p.hf
  rw [F.K p.j] at z
  exact z
theorem snd_isE {Y : D} {cv : Value} {tab : Nat → Option Bool} (hY : conV Y = some cv) (hC : ∀ c b, tab c = some b → ExcC G.K (G.exc c)) (ht : ∀ c b, tab c = some b → PySem.W.kitOne G.K (.ref (G.exc c)) cv = some b) :
    SndC (G.hot a dx C) (fun xs H Q => (∃ fs, H dx = some (.xd fs)) ∧ rIsD G.K C a xs H Q) (p_isE Y tab) := fun E0 ι S H xs ds Q R rs q => by
  unfold p_isE at q
  split at q
  · rename_i c d y
    split at q
    · rename_i hs
      split at q
      · rename_i b hb
        cases rs with
        | cons r1 rs =>
          cases rs with
          | cons r2 rs =>
            cases rs
            obtain ⟨rfl, rfl, w, hw, _⟩ := err_at r1
            exact ⟨⟨_, hw⟩, hC c b hb, .inl ⟨_, cv, b, rfl, con_rel r2 hs hY, ht c b hb, Post.here R q _ (.bl b)⟩⟩
      · exact q.elim
    · exact q.elim
  · exact q.elim
/-- e.f -/
def c_xf (c : Nat) (o : ECode) : ECode := fun ρ S => (o ρ S).bind fun x S1 => match x with
  | .err c' d => if c' = c then .ok d S1 else .stuck
  | _ => .stuck
theorem de_xf (F : FamH Xs G E) {E' : WK} {c : Nat} {e : Expr} {pos : Pos} {o : ECode} (T : XfC G.K (G.exc c)) (hno : PySem.W.findIn G.K (.ref (G.exc c)) (G.exf c) = some none) (ho : DE (SuX Xs a dx C) (G.hot a dx C) E' e o)
    {n : Str} (hn : G.exf c = n) (hb : ∀ p, attributeBase e n (SuX Xs a dx C p).env (eval e (SuX Xs a dx C p).env) = eval e (SuX Xs a dx C p).env) : DE (SuX Xs a dx C) (G.hot a dx C) E' (.Attribute e n pos) (c_xf c o) := by
  subst hn
  obtain ⟨to, po, so⟩ := ho
  refine ⟨tXf a (.ref C) (some dx) (G.exc c) (G.exf c) to, fun p => pe_xf (X := Xs p.j) (pn := p.pn) (by rw [F.K p.j]; exact T) (by rw [F.K p.j]; exact hno) p.hz p.hf (po p) (hb p), fun ι S H σ ρ Q R e q => ?_⟩
  refine so.go R e q fun d S1 ι1 H1 v x1 R1 e1 r1 q1 => ?_
  cases d with
  | err c' d =>
    have q1 : Post (G.hot a dx C) (E' σ) ι1 S1 H1 (PV (G.hot a dx C) Q) (if c' = c then .ok d S1 else .stuck) := q1
    by_cases hc : c' = c
    · subst hc
      rw [if_pos rfl] at q1
      obtain ⟨rfl, hC, w, hw, rw'⟩ := err_at r1
      refine ⟨rfl, by rw [hC], dx, _, w, rfl, hw, ?_, Post.here R1 q1 _ rw'⟩
      simp [List.lookup]
    · rw [if_neg hc] at q1
      exact q1.elim
  | _ => exact q1.elim
end
end DL
namespace DL
open PySem PySem.Spec PyProof.Rows L2
/-! ### the __init__ of an error -/
abbrev ErX (G : Gx) (N : List Str) (qual : Str) (scope : Scope) (f : Addr) (E : XK) : Value × Around × List PySem.Env × Shared × Hp → Cx :=
  fun p => cxOf CX0 G.P G.w G.K G.mg G.base N qual scope f p.1 p.2.1 p.2.2.1 p.2.2.2.1 p.2.2.2.2 E
theorem err_fn {G : Gx} {x qual : Str} {st : Stmt} {f : Addr} {fd : FuncData} {N ps : List Str} {fE msg : Str} (F : Fun G.K x qual st f fd) (Sc : FnScope N ps (defScope st)) (hN : N.length = 2) (hps : ps.length = 2)
    (hb : ∀ E p, PSs (ErX G N qual (defScope st) f E p) (defBody st) (tSeq (tDrop (tVeI G.K (tCons (tVar 0) (tCons (tC (.str msg)) tNil)))) (tOst G.K fE (tVar 0) (tVar 1)))) :
    FnOk G.P G.w G.K G.mg G.base CX0 1 f fd ps (spErr G.K fE) := by
  obtain ⟨oc, od, kV, doc, pm, an, cdv, ct, osl, rfl, lk, hcd⟩ := F.ex
  exact fn_of lk hcd Sc (fun vs H Q E h => (spErr_len vs H Q E h).trans hps.symm) fun A outer s H vs Q E hr hsp => ⟨_, hb E (cdv, A, outer, s, H), err_body hsp hN⟩
end DL
set_option Elab.async false
set_option linter.all false
set_option maxRecDepth 100000
set_option maxHeartbeats 4000000
/-! DLN: list.remove of an integer, dict(list of pairs), dict.update of a dict -/
namespace DL
open PySem PySem.Spec PyProof.Rows L2
end DL
set_option Elab.async false
set_option linter.all false
set_option maxRecDepth 100000
set_option maxHeartbeats 4000000
/-! DKE: errors of one's own over KeyError, IndexError, ZeroDivisionError: the library's lines for ValueError, for a base of any of the four; try with more than one clause -/
namespace DL
open PySem PySem.Spec PyProof.Rows L2
/-- what the __init__ of a base does -/
structure IniFacts (B initId : String) : Prop where
  init : Slot B "__init__" initId
  initEntry : entryFor table initId = some Builtin.«BaseException.__init__»
  initSplit : splitId initId = some (B, "__init__")
  initKind : builtinKind initId = some .slot
  initRow : Manifest.signature? initId = some ⟨.positional, "*", B, .self, [⟨"args", .varPos, false⟩]⟩
  noStar : (B != "*") = true
theorem IniFacts.of {B n i : String} {bm : List Value} (F : ExcBaseFacts B n i bm) : IniFacts B i := ⟨F.init, F.initEntry, F.initSplit, F.initKind, F.initRow, F.noStar⟩
inductive Bas where
  | ve | ke | ie | ze
/-- whose __new__ -/
def Bas.nB : Bas → String
  | .ve => "ValueError" | .ke => "LookupError" | .ie => "IndexError" | .ze => "ZeroDivisionError"
def Bas.nw : Bas → String
  | .ve => "ValueError.__new__" | .ke => "LookupError.__new__" | .ie => "IndexError.__new__" | .ze => "ZeroDivisionError.__new__"
def Bas.nini : Bas → String
  | .ve => "ValueError.__init__" | .ke => "LookupError.__init__" | .ie => "IndexError.__init__" | .ze => "ZeroDivisionError.__init__"
def Bas.tl : Bas → List Value
  | .ve => [.type "ValueError", .type "Exception", .type "BaseException", .type "object"]
  | .ke => [.type "KeyError", .type "LookupError", .type "Exception", .type "BaseException", .type "object"]
  | .ie => [.type "IndexError", .type "LookupError", .type "Exception", .type "BaseException", .type "object"]
  | .ze => [.type "ZeroDivisionError", .type "ArithmeticError", .type "Exception", .type "BaseException", .type "object"]
def Bas.ntl : Bas → List Value
  | .ke => [.type "LookupError", .type "Exception", .type "BaseException", .type "object"]
  | β => β.tl
theorem Bas.N : ∀ β : Bas, ExcBaseFacts β.nB β.nw β.nini β.ntl
  | .ve => PySem.F.excBase_ValueError
  | .ke => PySem.F.excBase_LookupError
  | .ie => PySem.F.excBase_IndexError
  | .ze => PySem.F.excBase_ZeroDivisionError
theorem Bas.pass : ∀ (β : Bas) (self : Value), refuseLoop self "__setattr__" β.tl = pure ()
  | .ve, self => PySem.F.store_ValueError.passes self
  | .ke, self => by kernel_rfl
  | .ie, self => by kernel_rfl
  | .ze, self => by kernel_rfl
theorem Bas.obj : ∀ β : Bas, β.tl.contains (.type "object") = true
  | .ve => by decide +kernel
  | .ke => by decide +kernel
  | .ie => by decide +kernel
  | .ze => by decide +kernel
/-! ### the __init__ of an error -/
end DL
set_option Elab.async false
set_option linter.all false
set_option maxRecDepth 100000
set_option maxHeartbeats 4000000
/-! DKT: try with a list of clauses, each 'except X as n' -/
namespace DL
open PySem PySem.Spec PyProof.Rows L2
structure Hd where
  x : Str
  n : Str
  np : Pos
  pos : Pos
  b₀ : Stmt
  suite : List Stmt
  c : Value
  i : Nat
  ts : Addr → Value → Option Addr → TS
/-! ### in mirrors -/
structure HdD where
  x : Str
  n : Str
  np : Pos
  pos : Pos
  b₀ : Stmt
  suite : List Stmt
  cv : Value
  i : Nat
  m : Nat → Option Bool
  cs : SCode
section
variable {I : Type} {Xs : I → Cx} {G : Gx} {E : WK} {kk : Nat}
open Classical in
noncomputable def tsD (Xs : I → Cx) (G : Gx) (h : HdD) (a : Addr) (cls : Value) (d : Option Addr) : TS := match cls, d with
  | .ref C, some dx => if p : DSs (SuX Xs a dx C) (G.hot a dx C) (fun _ => E0) (h.b₀ :: h.suite) h.cs then Classical.choose p else fun _ _ _ => False
  | _, _ => fun _ _ _ => False
noncomputable def HdD.hd (Xs : I → Cx) (G : Gx) (h : HdD) : Hd := ⟨h.x, h.n, h.np, h.pos, h.b₀, h.suite, h.cv, h.i, tsD Xs G h⟩
end
end DL
set_option Elab.async false
set_option linter.all false
set_option maxRecDepth 100000
set_option maxHeartbeats 4000000
/-! DKR: repr of lists and tuples in which there are dicts of plain values (rk, shows: lines of the library's proof of repr, for what Dq says) -/
namespace DL
open PySem PySem.Spec PyProof.Rows L2
def keyPy : Key → PyData
  | .inl i => .int i
  | .inr x => .str x
inductive Ds : V → PyData → Prop
  | non : Ds .non .none
  | bl (b : Bool) : Ds (.bl b) (.bool b)
  | int (i : Int) : Ds (.int i) (.int i)
  | str (x : Str) : Ds (.str x) (.str x)
inductive DsAll : List V → List PyData → Prop
  | nil : DsAll [] []
  | cons {v : V} {vs : List V} {d : PyData} {ds : List PyData} : Ds v d → DsAll vs ds → DsAll (v :: vs) (d :: ds)
mutual
inductive Dq (K : PySem.W.Frag) (H : Hp) : V → PyData → Prop
  | sc {v : V} {p : PyData} : Ds v p → Dq K H v p
  | tup {a : Addr} {xs : List V} {ds : List PyData} : SqT K H a xs → DqAll K H xs ds → Dq K H (.ref a) (.tuple ds)
  | lst {a : Addr} {xs : List V} {ds : List PyData} : SqL K H a xs → DqAll K H xs ds → Dq K H (.ref a) (.list ds)
  | dk {a : Addr} {kvs : List (Key × V)} {ps : List PyData} : H a = some (.dK kvs) → DsAll (kvs.map (·.2)) ps → Dq K H (.ref a) (.dict ((kvs.map fun q => keyPy q.1).zip ps))
inductive DqAll (K : PySem.W.Frag) (H : Hp) : List V → List PyData → Prop
  | nil : DqAll K H [] []
  | cons {v : V} {vs : List V} {d : PyData} {ds : List PyData} : Dq K H v d → DqAll K H vs ds → DqAll K H (v :: vs) (d :: ds)
end
theorem Ds.reads {h : Heap} {v : V} {u : Value} {p : PyData} (q : Ds v p) (r : RelV v u) : Reads h u p [] := by
  cases q with
  | non => cases r; exact Reads.none
  | bl b => cases r; exact Reads.bool b
  | int i => obtain ⟨t, rfl⟩ := r; exact Reads.int i t
  | str x => obtain ⟨t, rfl⟩ := r; exact Reads.str x t
theorem DsAll.length {vs : List V} {ps : List PyData} (q : DsAll vs ps) : vs.length = ps.length := by
  induction q with
  | nil => rfl
  | cons _ _ ih => rw [List.length_cons, List.length_cons, ih]
theorem pairs_keys {P : Program} {w : World} {h : Heap} : ∀ {es : List DictEntry} {vs : List (Key × Value)} {kvs : List (Key × V)}, Pairs (mixKind P w) es vs → KV kvs vs → ReadsAll h (es.map (·.key)) (kvs.map fun q => keyPy q.1) []
  | _, _, _, .nil, .nil => ReadsAll.nil
  | _, _, _, .cons hk hv hp, .cons hq hr => by
    have ih := pairs_keys (h := h) hp hr
    rw [List.map_cons, List.map_cons, hq.1]
    have hk : keyIs _ _ = true := hk
    rcases keyIs_shape hk with ⟨i, t, e1, e2⟩ | ⟨x, t, e1, e2⟩
    · rw [e1, e2]
      exact ReadsAll.cons (Reads.int i t) ih
    · rw [e1, e2]
      exact ReadsAll.cons (Reads.str x t) ih
theorem pairs_vals {P : Program} {w : World} {h : Heap} : ∀ {es : List DictEntry} {vs : List (Key × Value)} {kvs : List (Key × V)} {ps : List PyData}, Pairs (mixKind P w) es vs → KV kvs vs → DsAll (kvs.map (·.2)) ps → ReadsAll h (es.map (·.val)) ps []
  | _, _, _, _, .nil, .nil, d => by
    cases d
    exact ReadsAll.nil
  | _, _, _, _, .cons hk hv hp, .cons hq hr, d => by
    cases d with
    | cons d1 d2 =>
      have ih := pairs_vals (h := h) hp hr d2
      rw [List.map_cons, hv]
      exact ReadsAll.cons (d1.reads hq.2) ih
section
variable {X : Cx} {pins : List (Addr × Obj)} {σ : L2.St} {H : Hp} {s : Shared}
mutual
theorem Dq.reads (I : Inv X pins σ H s) : ∀ (d : PyData) (v : V) (u : Value), Dq X.K H v d → RelV v u → ∃ as, Reads s.heap u d as
  | .tuple ds, _, _, h, r => by
    cases h with
    | sc h => cases h
    | tup hs ha =>
      cases r
      obtain ⟨its, rv, ⟨o, ho, hc, n, hd⟩, _⟩ := I.tuple hs
      obtain ⟨as, hr⟩ := Dq.readsAll I ds _ its ha rv
      exact ⟨_, Reads.tuple ho hc hd hr⟩
  | .dict kds, _, _, h, r => by
    cases h with
    | sc h => cases h
    | dk hk hd =>
      cases r
      obtain ⟨hz, hsm, vs, kv, o, es, ep, ho, hx, hdt, hko, hp, hnd⟩ := dk_of I.hok hk
      have h1 := pairs_keys (h := s.heap) hp kv
      have h2 := pairs_vals (h := s.heap) hp kv hd
      have hl := hd.length
      rw [List.length_map] at hl
      exact ⟨_, Reads.dict ho hx.1 hdt (by rw [List.map_fst_zip (by rw [List.length_map]; omega)]; exact h1) (by rw [List.map_snd_zip (by rw [List.length_map]; omega)]; exact h2)⟩
  | .none, _, _, h, r => by cases h with | sc h => exact ⟨_, h.reads r⟩
  | .bool b, _, _, h, r => by cases h with | sc h => exact ⟨_, h.reads r⟩
  | .int i, _, _, h, r => by cases h with | sc h => exact ⟨_, h.reads r⟩
  | .str x, _, _, h, r => by cases h with | sc h => exact ⟨_, h.reads r⟩
  | .list ds, _, _, h, r => by
    cases h with
    | sc h => cases h
    | lst hs ha =>
      cases r
      obtain ⟨its, rv, ⟨o, n, ho, hc, _, hd⟩, _⟩ := I.list hs
      obtain ⟨as, hr⟩ := Dq.readsAll I ds _ its ha rv
      exact ⟨_, Reads.list ho hc hd hr⟩
theorem Dq.readsAll (I : Inv X pins σ H s) : ∀ (ds : List PyData) (vs : List V) (us : List Value), DqAll X.K H vs ds → Vals vs us → ∃ as, ReadsAll s.heap us ds as
  | [], _, _, h, r => by
    cases h
    cases r
    exact ⟨_, ReadsAll.nil⟩
  | d :: ds, _, _, h, r => by
    cases h with
    | cons h1 h2 =>
      cases r with
      | cons r1 r2 =>
        obtain ⟨as, q1⟩ := Dq.reads I d _ _ h1 r1
        obtain ⟨bs, q2⟩ := Dq.readsAll I ds _ _ h2 r2
        exact ⟨_, ReadsAll.cons q1 q2⟩
end
end
def pySc : D → Option PyData
  | .non => some .none
  | .bl b => some (.bool b)
  | .int i => some (.int i)
  | .str x => some (.str x)
  | _ => none
def pyScL : List D → Option (List PyData)
  | [] => some []
  | d :: ds => (pySc d).bind fun p => (pyScL ds).map fun ps => p :: ps
section
variable {G : Gx} {ι : Ix} {L : Addr → Prop} {H : Hp}
theorem Rep.sc {v : V} {d : D} {p : PyData} (r : Rep G ι L H v d) (e : pySc d = some p) : Ds v p := by
  cases d <;> first | (cases e; done) | skip
  · cases r; cases e; exact .non
  · cases r; cases e; exact .bl _
  · cases r; cases e; exact .int _
  · cases r; cases e; exact .str _
theorem Reps.sc : ∀ {vs : List V} {ds : List D} {ps : List PyData}, Reps G ι L H vs ds → pyScL ds = some ps → DsAll vs ps
  | _, _, _, .nil, e => by
    cases e
    exact .nil
  | _, _, _, .cons r rs, e => by
    rw [pyScL] at e
    obtain ⟨p, e1, e⟩ := Option.bind_eq_some_iff.mp e
    obtain ⟨ps, e2, rfl⟩ := Option.map_eq_some_iff.mp e
    exact .cons (r.sc e1) (rs.sc e2)
end
end DL
set_option Elab.async false
set_option linter.all false
set_option maxRecDepth 100000
set_option maxHeartbeats 4000000
/-! DKV: list(range(a, b)) -/
namespace DL
open PySem PySem.Spec PyProof.Rows L2
end DL
set_option Elab.async false
set_option linter.all false
set_option maxRecDepth 100000
set_option maxHeartbeats 4000000
/-! DMR: chains of three, order of tuples of ints, x == (), a def that calls itself -/
namespace DL
open PySem PySem.Spec PyProof.Rows L2
/-! ### a op1 b op2 c op3 d -/
def tChain3 (r r' r'' : R2) (ta tb tc td : TE) : TE := fun σ H Q => ta σ H fun x H1 => tb σ H1 fun y H2 => r x y H2 fun z H3 => ∃ k, z = .bl k ∧
  (if k = true then tc σ H3 fun w H4 => r' y w H4 fun z' H5 => ∃ k', z' = .bl k' ∧ (if k' = true then td σ H5 fun w2 H6 => r'' w w2 H6 Q else Q (.bl false) H5) else Q (.bl false) H3)
def c_chain3 (p p' p'' : D → D → Sto → Res D) (a b c d : ECode) : ECode := fun ρ S => (a ρ S).bind fun x S1 => (b ρ S1).bind fun y S2 => (p x y S2).bind fun z S3 => (asB z S3).bind fun k S4 =>
  if k = true then (c ρ S4).bind fun w S5 => (p' y w S5).bind fun z' S6 => (asB z' S6).bind fun k' S7 => if k' = true then (d ρ S7).bind fun w2 S8 => p'' w w2 S8 else .ok (.bl false) S7 else .ok (.bl false) S4
section
variable {I : Type} {Xs : I → Cx} {G : Gx} {E : WK} {kk : Nat}
theorem snd_chain3 {r r' r'' : R2} {p p' p'' : D → D → Sto → Res D} {ta tb tc td : TE} {a b c d : ECode} (hr : SndR G r p) (hr' : SndR G r' p') (hr'' : SndR G r'' p'') (sa : Snd G E ta a) (sb : Snd G E tb b) (sc : Snd G E tc c) (sd : Snd G E td d) :
    Snd G E (tChain3 r r' r'' ta tb tc td) (c_chain3 p p' p'' a b c d) := fun ι S H σ ρ Q R e q => by
  refine sa.go R e q fun d S1 ι1 H1 v x1 R1 e1 r1 q1 => ?_
  refine sb.go R1 e1 q1 fun d2 S2 ι2 H2 v2 x2 R2 e2 r2 q2 => ?_
  refine hr.go R2 (r1.mono x2) r2 q2 fun d3 S3 ι3 H3 v3 x3 R3 r3 q3 => ?_
  cases d3 with
  | bl k =>
    refine ⟨k, r3.bl_of, ?_⟩
    have q4 : Post G (E σ) ι3 S3 H3 (PV G Q) (if k = true then (c ρ S3).bind fun w S5 => (p' d2 w S5).bind fun z' S6 => (asB z' S6).bind fun k' S7 => if k' = true then (_ : ECode) ρ S7 |>.bind fun w2 S8 => p'' w w2 S8 else .ok (.bl false) S7 else .ok (.bl false) S3) := q3
    cases k with
    | true =>
      rw [if_pos rfl] at q4 ⊢
      refine sc.go R3 (e2.mono x3) q4 fun d5 S5 ι5 H5 v5 x5 R5 e5 r5 q5 => ?_
      refine hr'.go R5 ((r2.mono x3).mono x5) r5 q5 fun d6 S6 ι6 H6 v6 x6 R6 r6 q6 => ?_
      cases d6 with
      | bl k2 =>
        refine ⟨k2, r6.bl_of, ?_⟩
        have q7 : Post G (E σ) ι6 S6 H6 (PV G Q) (if k2 = true then (_ : ECode) ρ S6 |>.bind fun w2 S8 => p'' d5 w2 S8 else .ok (.bl false) S6) := q6
        cases k2 with
        | true =>
          rw [if_pos rfl] at q7 ⊢
          refine sd.go R6 (e5.mono x6) q7 fun d8 S8 ι8 H8 v8 x8 R8 e8 r8 q8 => ?_
          exact hr'' (E σ) ι8 S8 H8 v5 v8 d5 d8 Q R8 ((r5.mono x6).mono x8) r8 q8
        | false =>
          rw [if_neg Bool.false_ne_true] at q7 ⊢
          exact Post.here R6 q7 _ (.bl false)
      | _ => exact q6.elim
    | false =>
      rw [if_neg Bool.false_ne_true] at q4 ⊢
      exact Post.here R3 q4 _ (.bl false)
  | _ => exact q3.elim
/-! ### order of tuples of ints -/
def tupInts : D → Option (List Int)
  | .tup ds => ds.mapM intOf
  | _ => none
def p_cmpT (f : List Int → List Int → Bool) : D → D → Sto → Res D := fun x y S => match tupInts x, tupInts y with
  | some ns, some ms => .ok (.bl (f ns ms)) S
  | _, _ => .stuck
theorem tupInts_at {ι : Ix} {S : Sto} {H : Hp} {v : V} {d : D} {ns : List Int} (r : Rep G ι (Lv ι S) H v d) (h : tupInts d = some ns) : ∃ a, v = .ref a ∧ SqT G.K H a (ns.map V.int) := by
  cases d with
  | tup ds =>
    obtain ⟨a, vs, rfl, ha, ra⟩ := r.sqT
    rw [ra.ints h] at ha
    exact ⟨a, rfl, ha⟩
  | _ => cases h
def lexLe (ns ms : List Int) : Bool := Ob.lexAt (fun j => decide (ns.getD j 0 = ms.getD j 0)) (fun j => decide (ns.getD j 0 ≤ ms.getD j 0)) (decide (ns.length ≤ ms.length)) 0 (min ns.length ms.length)
def p_leT := p_cmpT lexLe
theorem snd_leT : SndR G (rLeT G.K) p_leT := fun E ι S H x y dx dy Q R rx ry q => by
  unfold p_leT p_cmpT at q
  cases h1 : tupInts dx with
  | none => simp only [h1] at q; exact q.elim
  | some ns =>
    cases h2 : tupInts dy with
    | none => simp only [h1, h2] at q; exact q.elim
    | some ms =>
      simp only [h1, h2] at q
      obtain ⟨a, rfl, ha⟩ := tupInts_at rx h1
      obtain ⟨b, rfl, hb⟩ := tupInts_at ry h2
      exact ⟨a, b, ns, ms, rfl, rfl, ha, hb, Post.here R q _ (.bl _)⟩
theorem leT_at (F : FamH Xs G E) (j : I) : OpR (Xs j) (compareOp .LtE) (rLeT G.K) := by
  rw [← F.K j]
  exact op_leT (by have := F.u64 j; omega)
/-! ### x == (), x a tuple of any kind -/
theorem Reps.isEmpty {ι : Ix} {L : Addr → Prop} {H : Hp} {vs : List V} {ds : List D} (r : Reps G ι L H vs ds) : vs.isEmpty = ds.isEmpty := by
  cases r <;> rfl
end
/-! ### a def that calls itself -/
theorem FnP.none {G : Gx} {k : Nat} {f : Addr} : FnP G k f (fun _ _ => .stuck) := fun _ _ _ _ _ _ _ _ _ _ _ _ _ _ _ _ _ p => p.elim
end DL
set_option Elab.async false
set_option linter.all false
set_option maxRecDepth 100000
set_option maxHeartbeats 4000000
/-! DMY: repr of any plain value: None, bools, texts, dicts, too -/
namespace DL
open PySem PySem.Spec PyProof.Rows L2
theorem DsAll.reads {h : Heap} : ∀ {vs : List V} {us : List Value} {ps : List PyData}, DsAll vs ps → Vals vs us → ReadsAll h us ps []
  | _, _, _, .nil, .nil => ReadsAll.nil
  | _, _, _, .cons a b, .cons r q => ReadsAll.cons (a.reads r) (b.reads q)
end DL
set_option Elab.async false
set_option linter.all false
set_option maxRecDepth 100000
set_option maxHeartbeats 4000000
/-! DMB: bools among ints: + - str -/
namespace DL
open PySem PySem.Spec PyProof.Rows L2
section
variable {G : Gx}
/-! texts compared, whatever their signs -/
def p_eqS (neg : Bool) (x y : D) (S : Sto) : Res D := match x, y with
  | .str a, .str b => .ok (.bl (if neg = true then !decide (a = b) else decide (a = b))) S
  | x, y => p_eq neg x y S
theorem snd_eqS : SndR G (fun x y H Q => rEq x y H Q ∨ rEqD G.K x y H Q) (p_eqS false) := fun E ι S H x y dx dy Q R rx ry q => by
  unfold p_eqS at q
  split at q
  · rename_i a b
    rw [rx.str_of, ry.str_of]
    have e : decide (V.str a = V.str b) = decide (a = b) := by
      by_cases h : a = b
      · subst h; simp
      · rw [decide_eq_false h, decide_eq_false fun z => h (V.str.inj z)]
    exact .inl ⟨rfl, by rw [e]; exact Post.here R q _ (.bl _)⟩
  · exact .inr (snd_eq E ι S H x y _ _ Q R rx ry q)
theorem snd_neS : SndR G (fun x y H Q => rNe x y H Q ∨ rNeD G.K x y H Q) (p_eqS true) := fun E ι S H x y dx dy Q R rx ry q => by
  unfold p_eqS at q
  split at q
  · rename_i a b
    rw [rx.str_of, ry.str_of]
    have e : decide (V.str a = V.str b) = decide (a = b) := by
      by_cases h : a = b
      · subst h; simp
      · rw [decide_eq_false h, decide_eq_false fun z => h (V.str.inj z)]
    exact .inl ⟨rfl, by rw [e]; exact Post.here R q _ (.bl _)⟩
  · exact .inr (snd_ne E ι S H x y _ _ Q R rx ry q)
theorem eqS_at {I : Type} {Xs : I → Cx} {E : WK} (F : FamH Xs G E) (j : I) : OpR (Xs j) (compareOp .Eq) (fun x y H Q => rEq x y H Q ∨ rEqD G.K x y H Q) := by
  have z := op_eqD (X := Xs j) (F.u64 j)
  rw [F.K j] at z
  exact op_eq.or z
theorem neS_at {I : Type} {Xs : I → Cx} {E : WK} (F : FamH Xs G E) (j : I) : OpR (Xs j) (compareOp .NotEq) (fun x y H Q => rNe x y H Q ∨ rNeD G.K x y H Q) := by
  have z := op_neD (X := Xs j) (F.u64 j)
  rw [F.K j] at z
  exact op_ne.or z
end
end DL
set_option Elab.async false
set_option linter.all false
set_option maxRecDepth 100000
set_option maxHeartbeats 4000000
/-! DM0: tuple * 0 -/
namespace DL
open PySem PySem.Spec PyProof.Rows L2
end DL
set_option Elab.async false
set_option linter.all false
set_option maxRecDepth 100000
set_option maxHeartbeats 4000000
/-! DNT: dict(list of pairs), the keys tuples -/
namespace DL
open PySem PySem.Spec PyProof.Rows L2
section
variable {prog : Program} {w : World} {A : Around} {E : Value → Shared → Prop}
abbrev tk (prog : Program) (w : World) := tupleKind (mixKind prog w)
end
/-! ### on abstract values -/
/-! ### on data -/
end DL
set_option Elab.async false
set_option linter.all false
set_option maxRecDepth 100000
set_option maxHeartbeats 4000000
/-! DG0: what runs while generators sleep leaves them asleep -/
namespace DG
open PySem
open Sem (wp)
/-- a suspended state that nothing can wake -/
def dead : GenState → GenState
  | .suspended _ l c p fs cl => .suspended (fun _ => .unsupported "asleep") l c p fs cl
  | st => st
theorem dead_seen : ∀ st : GenState, (dead st).seen = st.seen
  | .suspended .. => rfl
  | .fresh _ => rfl
  | .running => rfl
  | .finished => rfl
theorem dead_bare : ∀ st : GenState, (dead st).bare = st.bare
  | .suspended .. => rfl
  | .fresh _ => rfl
  | .running => rfl
  | .finished => rfl
def isSus : GenState → Bool
  | .suspended .. => true
  | _ => false
theorem dead_sus : ∀ {st : GenState}, isSus st = true → isSus (dead st) = true
  | .suspended .., _ => rfl
  | .fresh _, h => by cases h
  | .running, h => by cases h
  | .finished, h => by cases h
theorem not_dead {a st : GenState} (ha : isSus a = false) (h : isSus st = true) (e : some a = some (dead st)) : False := by
  have := congrArg isSus (Option.some.inj e)
  rw [ha, dead_sus h] at this
  cases this
def okS : GenState → Prop
  | .suspended _ _ _ _ fs _ => splitAtGen fs = none
  | _ => True
def okE : End → Prop
  | .susp _ _ _ _ _ _ fs => splitAtGen fs = none
  | .ret _ => True
theorem okS_of : ∀ {e : End}, okE e → okS e.genState
  | .ret _, _ => trivial
  | .susp .., h => h
structure Rl (G1 G2 : Array GenState) : Prop where
  size : G1.size = G2.size
  at_ : ∀ (i : Nat) (st1 st2 : GenState), G1[i]? = some st1 → G2[i]? = some st2 → (st1 = st2 ∧ okS st1) ∨ (isSus st2 = true ∧ st1 = dead st2)
/-- the sleeping ones stay as they are -/
def Kp (G1 G2 G1' G2' : Array GenState) : Prop := ∀ (i : Nat) (st : GenState), isSus st = true → G2[i]? = some st → G1[i]? = some (dead st) → G2'[i]? = some st ∧ G1'[i]? = some (dead st)
theorem Kp.refl {G1 G2 : Array GenState} : Kp G1 G2 G1 G2 := fun _ _ _ h1 h2 => ⟨h1, h2⟩
theorem Kp.trans {A B A' B' A2 B2 : Array GenState} (x : Kp A B A' B') (y : Kp A' B' A2 B2) : Kp A B A2 B2 := fun i st h h1 h2 => by
  obtain ⟨a, b⟩ := x i st h h1 h2
  exact y i st h a b
theorem Rl.get {G1 G2 : Array GenState} (h : Rl G1 G2) {i : Nat} {st1 : GenState} (e : G1[i]? = some st1) : ∃ st2, G2[i]? = some st2 ∧ ((st1 = st2 ∧ okS st1) ∨ (isSus st2 = true ∧ st1 = dead st2)) := by
  have hi : i < G2.size := by
    rw [← h.size]
    exact (Array.getElem?_eq_some_iff.mp e).1
  exact ⟨G2[i], Array.getElem?_eq_getElem hi, h.at_ i _ _ e (Array.getElem?_eq_getElem hi)⟩
theorem Rl.same {G1 G2 : Array GenState} (h : Rl G1 G2) {i : Nat} {st : GenState} (e : G1[i]? = some st) (n : isSus st = false) : G2[i]? = some st := by
  obtain ⟨st2, e2, q⟩ := h.get e
  rcases q with ⟨rfl, _⟩ | ⟨a, rfl⟩
  · exact e2
  · rw [dead_sus a] at n
    cases n
theorem Rl.set {G1 G2 : Array GenState} (h : Rl G1 G2) (g : Nat) {x : GenState} (hx : okS x) : Rl (G1.setIfInBounds g x) (G2.setIfInBounds g x) := by
  refine ⟨by simp [h.size], fun i st1 st2 e1 e2 => ?_⟩
  rw [Array.getElem?_setIfInBounds] at e1 e2
  by_cases hi : g = i
  · rw [if_pos hi] at e1 e2
    split at e1
    · split at e2
      · cases e1
        cases e2
        exact .inl ⟨rfl, hx⟩
      · cases e2
    · cases e1
  · rw [if_neg hi] at e1 e2
    exact h.at_ i st1 st2 e1 e2
theorem Rl.push {G1 G2 : Array GenState} (h : Rl G1 G2) (c : Code) : Rl (G1.push (.fresh c)) (G2.push (.fresh c)) := by
  refine ⟨by simp [h.size], fun i st1 st2 e1 e2 => ?_⟩
  rw [Array.getElem?_push] at e1 e2
  rw [h.size] at e1
  split at e1
  · rename_i q
    rw [if_pos q] at e2
    cases e1
    cases e2
    exact .inl ⟨rfl, trivial⟩
  · rename_i q
    rw [if_neg q] at e2
    exact h.at_ i st1 st2 e1 e2
theorem Kp.set {G1 G2 : Array GenState} (g : Nat) {x y : GenState} (hg : ∀ st, isSus st = true → G2[g]? = some st → G1[g]? ≠ some (dead st)) : Kp G1 G2 (G1.setIfInBounds g x) (G2.setIfInBounds g y) := fun i st h h1 h2 => by
  have hi : g ≠ i := fun e => hg st h (by rw [e]; exact h1) (by rw [e]; exact h2)
  rw [Array.getElem?_setIfInBounds, Array.getElem?_setIfInBounds, if_neg hi, if_neg hi]
  exact ⟨h1, h2⟩
theorem Kp.push {G1 G2 : Array GenState} (c : Code) : Kp G1 G2 (G1.push (.fresh c)) (G2.push (.fresh c)) := fun i st h h1 h2 => by
  have i1 : i < G2.size := (Array.getElem?_eq_some_iff.mp h1).1
  have i2 : i < G1.size := (Array.getElem?_eq_some_iff.mp h2).1
  rw [Array.getElem?_push, Array.getElem?_push, if_neg (by omega), if_neg (by omega)]
  exact ⟨h1, h2⟩
theorem split_cons {F : Frame} {fs : List Frame} (h : splitAtGen (F :: fs) = none) : splitAtGen fs = none ∧ ∃ k a b c d e f, F = .ret k a b c d e f := by
  cases F with
  | ret k a b c d e f =>
    refine ⟨?_, k, a, b, c, d, e, f, rfl⟩
    show splitAtGen fs = none
    have h : (splitAtGen fs).map _ = none := h
    cases hs : splitAtGen fs with
    | none => rfl
    | some q => rw [hs] at h; cases h
  | gen g k a b c => cases h
theorem split_ret {k h g l c p kp} {fs : List Frame} (q : splitAtGen fs = none) : splitAtGen (.ret k h g l c p kp :: fs) = none := by
  show (splitAtGen fs).map _ = none
  rw [q]
  rfl
theorem split_app : ∀ {fs gs : List Frame}, splitAtGen fs = none → splitAtGen gs = none → splitAtGen (fs ++ gs) = none
  | [], _, _, h => h
  | F :: fs, gs, h, h2 => by
    obtain ⟨h1, k, a, b, c, d, e, f, rfl⟩ := split_cons h
    exact split_ret (split_app h1 h2)
section
variable {M : Model}
theorem no_unsup {w : String} {Γ : Ctx} {p : Pos} {t : Sem Fin} {fs : List Frame} {s : Shared} {e : End} {s' : Shared} (h : Runs M Γ p t fs s e s') : t ≠ .unsupported w := by
  induction h with
  | segRet h1 h2 i1 i2 => exact i1
  | segGen h1 h2 i1 i2 => exact i1
  | segSuspOut h0 h1 i1 => exact i1
  | segSuspGen h0 h1 h2 h3 i1 i2 => exact i1
  | _ => exact fun z => nomatch z
abbrev wg (s : Shared) (G : Array GenState) : Shared := { s with gens := G }
theorem runs_rl {Γ : Ctx} {p : Pos} {t : Sem Fin} {fs : List Frame} {s : Shared} {e : End} {s' : Shared} (h : Runs M Γ p t fs s e s') : splitAtGen fs = none → ∀ G2, Rl s.gens G2 → ∃ G2', Rl s'.gens G2' ∧ okE e ∧ Runs M Γ p t fs (wg s G2) e (wg s' G2') ∧ Kp s.gens G2 s'.gens G2' := by
  induction h with
  | done => exact fun _ G2 r => ⟨G2, r, trivial, .done, .refl⟩
  | raise => exact fun _ G2 r => ⟨G2, r, trivial, .raise, .refl⟩
  | again q h ih =>
    intro hf G2 r
    obtain ⟨G3, a, b, c, d⟩ := ih rfl G2 r
    exact ⟨G3, a, b, .again q c, d⟩
  | rule h ih => intro hf G2 r; obtain ⟨G3, a, b, c, d⟩ := ih rfl G2 r; exact ⟨G3, a, b, .rule c, d⟩
  | «at» h ih => intro hf G2 r; obtain ⟨G3, a, b, c, d⟩ := ih rfl G2 r; exact ⟨G3, a, b, .at c, d⟩
  | load ho h ih => intro hf G2 r; obtain ⟨G3, a, b, c, d⟩ := ih rfl G2 r; exact ⟨G3, a, b, .load ho c, d⟩
  | update ho h ih => intro hf G2 r; obtain ⟨G3, a, b, c, d⟩ := ih rfl G2 r; exact ⟨G3, a, b, .update ho c, d⟩
  | loadIfAlive h ih => intro hf G2 r; obtain ⟨G3, a, b, c, d⟩ := ih rfl G2 r; exact ⟨G3, a, b, .loadIfAlive c, d⟩
  | point h ih => intro hf G2 r; obtain ⟨G3, a, b, c, d⟩ := ih rfl G2 r; exact ⟨G3, a, b, .point c, d⟩
  | alloc h ih => intro hf G2 r; obtain ⟨G3, a, b, c, d⟩ := ih rfl G2 r; exact ⟨G3, a, b, .alloc c, d⟩
  | fresh h ih => intro hf G2 r; obtain ⟨G3, a, b, c, d⟩ := ih rfl G2 r; exact ⟨G3, a, b, .fresh c, d⟩
  | ask h ih => intro hf G2 r; obtain ⟨G3, a, b, c, d⟩ := ih rfl G2 r; exact ⟨G3, a, b, .ask c, d⟩
  | choose hn h ih => intro hf G2 r; obtain ⟨G3, a, b, c, d⟩ := ih rfl G2 r; exact ⟨G3, a, b, .choose hn c, d⟩
  | os h ih => intro hf G2 r; obtain ⟨G3, a, b, c, d⟩ := ih rfl G2 r; exact ⟨G3, a, b, .os c, d⟩
  | handled h ih => intro hf G2 r; obtain ⟨G3, a, b, c, d⟩ := ih rfl G2 r; exact ⟨G3, a, b, .handled c, d⟩
  | stack h ih => intro hf G2 r; obtain ⟨G3, a, b, c, d⟩ := ih rfl G2 r; exact ⟨G3, a, b, .stack c, d⟩
  | thread h ih => intro hf G2 r; obtain ⟨G3, a, b, c, d⟩ := ih rfl G2 r; exact ⟨G3, a, b, .thread c, d⟩
  | genState hg h ih =>
    intro hf G2 r
    obtain ⟨st2, e2, q⟩ := r.get hg
    obtain ⟨G3, a, b, c, d⟩ := ih rfl G2 r
    rcases q with ⟨rfl, _⟩ | ⟨_, rfl⟩
    · exact ⟨G3, a, b, .genState e2 c, d⟩
    · rw [dead_seen] at c
      exact ⟨G3, a, b, .genState e2 c, d⟩
  | newGen h ih =>
    intro hf G2 r
    obtain ⟨G3, a, b, c, d⟩ := ih rfl _ (r.push _)
    rw [r.size] at c
    exact ⟨G3, a, b, .newGen c, (Kp.push _).trans d⟩
  | call h1 h2 i1 i2 =>
    intro hf G2 r
    obtain ⟨G3, a, b, c, d⟩ := i1 rfl G2 r
    obtain ⟨G4, a2, b2, c2, d2⟩ := i2 rfl G3 a
    exact ⟨G4, a2, b2, .call c c2, d.trans d2⟩
  | callSusp h1 i1 =>
    intro hf G2 r
    obtain ⟨G3, a, b, c, d⟩ := i1 rfl G2 r
    exact ⟨G3, a, split_app b (split_ret rfl), .callSusp c, d⟩
  | yield => exact fun _ G2 r => ⟨G2, r, rfl, .yield, .refl⟩
  | @resumeFresh Γ p g l k s cc e1 s1 e s' hg h1 hq h2 i1 i2 =>
    intro hf G2 r
    obtain ⟨G3, a, b, c, d⟩ := i1 rfl (G2.setIfInBounds g .running) (r.set g trivial)
    obtain ⟨G4, a2, b2, c2, d2⟩ := i2 rfl (G3.setIfInBounds g e1.genState) (a.set g (okS_of b))
    have n0 : ∀ st, isSus st = true → G2[g]? = some st → s.gens[g]? ≠ some (dead st) := fun st h _ z => by
      rw [hg] at z
      exact not_dead rfl h z
    have hgl : g < s.gens.size := (Array.getElem?_eq_some_iff.mp hg).1
    refine ⟨G4, a2, b2, .resumeFresh (r.same hg rfl) c hq c2, fun i st hs e1' e2' => ?_⟩
    have hi : g ≠ i := fun z => n0 st hs (by rw [z]; exact e1') (by rw [z]; exact e2')
    obtain ⟨q1, q2⟩ := ((Kp.set (x := GenState.running) (y := GenState.running) g n0).trans d) i st hs e1' e2'
    refine d2 i st hs ?_ ?_
    · rw [Array.getElem?_setIfInBounds, if_neg hi]; exact q1
    · show (s1.gens.setIfInBounds g e1.genState)[i]? = _
      rw [Array.getElem?_setIfInBounds, if_neg hi]; exact q2
  | @resumeSuspended Γ p g r0 l k s k0 l0 c0 p0 fs cl e1 s1 e s' hg h1 hq h2 i1 i2 =>
    intro hf G2 r
    obtain ⟨st2, e2, q⟩ := r.get hg
    have n0 : ∀ st, isSus st = true → G2[g]? = some st → s.gens[g]? ≠ some (dead st) := fun st h _ z => by
      rw [hg] at z
      cases st <;> first | cases h | skip
      have := Option.some.inj z
      unfold dead at this
      injection this with hk
      rw [hk] at h1
      exact no_unsup h1 rfl
    rcases q with ⟨rfl, hok⟩ | ⟨hs, hd⟩
    · obtain ⟨G3, a, b, c, d⟩ := i1 hok (G2.setIfInBounds g .running) (r.set g trivial)
      obtain ⟨G4, a2, b2, c2, d2⟩ := i2 rfl (G3.setIfInBounds g e1.genState) (a.set g (okS_of b))
      refine ⟨G4, a2, b2, .resumeSuspended e2 c hq c2, fun i st hs e1' e2' => ?_⟩
      have hi : g ≠ i := fun z => n0 st hs (by rw [z]; exact e1') (by rw [z]; exact e2')
      obtain ⟨q1, q2⟩ := ((Kp.set (x := GenState.running) (y := GenState.running) g n0).trans d) i st hs e1' e2'
      refine d2 i st hs ?_ ?_
      · rw [Array.getElem?_setIfInBounds, if_neg hi]; exact q1
      · show (s1.gens.setIfInBounds g e1.genState)[i]? = _
        rw [Array.getElem?_setIfInBounds, if_neg hi]; exact q2
    · exact absurd (by rw [hg, hd]) (n0 st2 hs e2)
  | resumeJustStarted hg hv h ih =>
    intro hf G2 r
    obtain ⟨G3, a, b, c, d⟩ := ih rfl G2 r
    exact ⟨G3, a, b, .resumeJustStarted (r.same hg rfl) hv c, d⟩
  | resumeThrowFresh hg h ih =>
    intro hf G2 r
    obtain ⟨G3, a, b, c, d⟩ := ih rfl _ (r.set _ trivial)
    refine ⟨G3, a, b, .resumeThrowFresh (r.same hg rfl) c, (Kp.set _ fun st h _ z => ?_).trans d⟩
    rw [hg] at z
    exact not_dead rfl h z
  | resumeRunning hg h ih =>
    intro hf G2 r
    obtain ⟨G3, a, b, c, d⟩ := ih rfl G2 r
    exact ⟨G3, a, b, .resumeRunning (r.same hg rfl) c, d⟩
  | resumeFinished hg h ih =>
    intro hf G2 r
    obtain ⟨G3, a, b, c, d⟩ := ih rfl G2 r
    exact ⟨G3, a, b, .resumeFinished (r.same hg rfl) c, d⟩
  | segRet h1 h2 i1 i2 =>
    intro hf G2 r
    obtain ⟨G3, a, b, c, d⟩ := i1 rfl G2 r
    obtain ⟨G4, a2, b2, c2, d2⟩ := i2 (split_cons hf).1 G3 a
    exact ⟨G4, a2, b2, .segRet c c2, d.trans d2⟩
  | segGen h1 h2 i1 i2 => exact fun hf => nomatch hf
  | segSuspOut h0 h1 i1 =>
    intro hf G2 r
    obtain ⟨G3, a, b, c, d⟩ := i1 rfl G2 r
    exact ⟨G3, a, split_app b hf, .segSuspOut h0 c, d⟩
  | segSuspGen h0 h1 h2 h3 i1 i2 =>
    intro hf
    rw [hf] at h0
    cases h0
theorem wakes_rl {Γ : Ctx} {p : Pos} {g : Nat} {r : Resume} {s : Shared} {res : GenResult} {s' : Shared} (h : Wakes M Γ p g r s res s') {G2 : Array GenState} (hr : Rl s.gens G2) : ∃ G2', Rl s'.gens G2' ∧ Wakes M Γ p g r (wg s G2) res (wg s' G2') ∧ Kp s.gens G2 s'.gens G2' := by
  unfold Wakes at h
  split at h
  · exact h.elim
  · rename_i c hg
    have h2 := hr.same hg rfl
    have n0 : ∀ st, isSus st = true → G2[g]? = some st → s.gens[g]? ≠ some (dead st) := fun st h _ z => by
      rw [hg] at z
      exact not_dead rfl h z
    split at h
    · obtain ⟨e1, s1, h1, hq, rfl, rfl⟩ := h
      obtain ⟨G3, a, b, c', d⟩ := runs_rl h1 rfl (G2.setIfInBounds g .running) (hr.set g trivial)
      refine ⟨G3.setIfInBounds g e1.genState, a.set g (okS_of b), ?_, fun i st hs e1' e2' => ?_⟩
      · unfold Wakes
        rw [h2]
        exact ⟨e1, _, c', hq, rfl, rfl⟩
      · have hi : g ≠ i := fun z => n0 st hs (by rw [z]; exact e1') (by rw [z]; exact e2')
        obtain ⟨q1, q2⟩ := ((Kp.set (x := GenState.running) (y := GenState.running) g n0).trans d) i st hs e1' e2'
        refine ⟨?_, ?_⟩
        · rw [Array.getElem?_setIfInBounds, if_neg hi]; exact q1
        · show (s1.gens.setIfInBounds g e1.genState)[i]? = _
          rw [Array.getElem?_setIfInBounds, if_neg hi]; exact q2
    · obtain ⟨rfl, rfl⟩ := h
      refine ⟨G2, hr, ?_, .refl⟩
      unfold Wakes
      rw [h2]
      rename_i v hv
      cases v <;> first | exact ⟨rfl, rfl⟩ | exact absurd rfl hv | exact (hv rfl).elim
    · obtain ⟨rfl, rfl⟩ := h
      refine ⟨G2.setIfInBounds g .finished, hr.set g trivial, ?_, Kp.set g n0⟩
      unfold Wakes
      rw [h2]
      exact ⟨rfl, rfl⟩
  · rename_i k0 l0 c0 p0 fs cl hg
    obtain ⟨e1, s1, h1, hq, rfl, rfl⟩ := h
    obtain ⟨st2, e2, q⟩ := hr.get hg
    have n0 : ∀ st, isSus st = true → G2[g]? = some st → s.gens[g]? ≠ some (dead st) := fun st h _ z => by
      rw [hg] at z
      cases st <;> first | cases h | skip
      have := Option.some.inj z
      unfold dead at this
      injection this with hk
      rw [hk] at h1
      exact no_unsup h1 rfl
    rcases q with ⟨rfl, hok⟩ | ⟨hs, hd⟩
    · obtain ⟨G3, a, b, c', d⟩ := runs_rl h1 hok (G2.setIfInBounds g .running) (hr.set g trivial)
      refine ⟨G3.setIfInBounds g e1.genState, a.set g (okS_of b), ?_, fun i st hs e1' e2' => ?_⟩
      · unfold Wakes
        rw [e2]
        exact ⟨e1, _, c', hq, rfl, rfl⟩
      · have hi : g ≠ i := fun z => n0 st hs (by rw [z]; exact e1') (by rw [z]; exact e2')
        obtain ⟨q1, q2⟩ := ((Kp.set (x := GenState.running) (y := GenState.running) g n0).trans d) i st hs e1' e2'
        refine ⟨?_, ?_⟩
        · rw [Array.getElem?_setIfInBounds, if_neg hi]; exact q1
        · show (s1.gens.setIfInBounds g e1.genState)[i]? = _
          rw [Array.getElem?_setIfInBounds, if_neg hi]; exact q2
    · exact absurd (by rw [hg, hd]) (n0 st2 hs e2)
  · rename_i hg
    obtain ⟨rfl, rfl⟩ := h
    refine ⟨G2, hr, ?_, .refl⟩
    unfold Wakes
    rw [hr.same hg rfl]
    exact ⟨rfl, rfl⟩
  · rename_i hg
    obtain ⟨rfl, rfl⟩ := h
    refine ⟨G2, hr, ?_, .refl⟩
    unfold Wakes
    rw [hr.same hg rfl]
    exact ⟨rfl, rfl⟩
/-- what holds behind it, with the sleeping ones asleep -/
def Bk {α : Type} (Q : α → Pos → Shared → Prop) (G1 G2 : Array GenState) (a : α) (p : Pos) (s2 : Shared) : Prop := ∃ (s1 : Shared) (G2' : Array GenState), s2 = wg s1 G2' ∧ Rl s1.gens G2' ∧ Kp G1 G2 s1.gens G2' ∧ Q a p s1
theorem wp_rl {α : Type} {Γ : Ctx} (t : Sem α) : ∀ {Q : α → Pos → Shared → Prop} {E : Value → Pos → Shared → Prop} {p : Pos} {s : Shared} {G2 A1 A2 : Array GenState}, wp M Γ t Q E p s → Rl s.gens G2 → Kp A1 A2 s.gens G2 →
    wp M Γ t (Bk Q A1 A2) (Bk E A1 A2) p (wg s G2) := by
  induction t with
  | pure a => intro Q E p s G2 A1 A2 h r k; exact ⟨s, G2, rfl, r, k, h⟩
  | raise e => intro Q E p s G2 A1 A2 h r k; exact ⟨s, G2, rfl, r, k, h⟩
  | unsupported _ => intro Q E p s G2 A1 A2 h; exact h.elim
  | finish _ => intro Q E p s G2 A1 A2 h; exact h.elim
  | register _ _ => intro Q E p s G2 A1 A2 h; exact h.elim
  | yield _ _ _ _ => intro Q E p s G2 A1 A2 h; exact h.elim
  | fork _ _ => intro Q E p s G2 A1 A2 h; exact h.elim
  | await _ _ _ _ _ => intro Q E p s G2 A1 A2 h; exact h.elim
  | rule _ k ih => intro Q E p s G2 A1 A2 h r kp; exact ih () h r kp
  | «at» p' k ih => intro Q E p s G2 A1 A2 h r kp; exact ih () h r kp
  | load a _ k ih => intro Q E p s G2 A1 A2 h r kp; obtain ⟨o, ho, h⟩ := h; exact ⟨o, ho, ih o h r kp⟩
  | update a _ f k ih => intro Q E p s G2 A1 A2 h r kp; exact ⟨h.1, ih () (s := { s with heap := s.heap.update a f }) h.2 r kp⟩
  | loadIfAlive a k ih => intro Q E p s G2 A1 A2 h r kp; exact ih _ h r kp
  | point _ k ih => intro Q E p s G2 A1 A2 h r kp; exact ih () h r kp
  | alloc o k ih => intro Q E p s G2 A1 A2 h r kp; exact ih _ (s := { s with heap := s.heap.push o }) h r kp
  | fresh k ih => intro Q E p s G2 A1 A2 h r kp; exact ih _ (s := { s with toks := s.toks + 1 }) h r kp
  | ask k ih => intro Q E p s G2 A1 A2 h r kp; exact ih _ h r kp
  | choose src m k ih => intro Q E p s G2 A1 A2 h r kp; exact ⟨h.1, ih _ (s := { s with drawn := s.drawn.bump src }) h.2 r kp⟩
  | os q _ k ih => intro Q E p s G2 A1 A2 h r kp; exact ih _ (s := { s with os := (Os.step s.os q).1 }) h r kp
  | handled own k ih => intro Q E p s G2 A1 A2 h r kp; exact ih _ h r kp
  | stack k ih => intro Q E p s G2 A1 A2 h r kp; exact ih _ h r kp
  | thread k ih => intro Q E p s G2 A1 A2 h r kp; exact ih _ h r kp
  | genState g k ih =>
    intro Q E p s G2 A1 A2 h r kp
    obtain ⟨st, hs, h⟩ := h
    obtain ⟨st2, e2, q⟩ := r.get hs
    have es : st2.seen = st.seen := by
      rcases q with ⟨rfl, _⟩ | ⟨_, rfl⟩
      · rfl
      · exact (dead_seen st2).symm
    exact ⟨st2, e2, by rw [es]; exact ih _ h r kp⟩
  | newGen c k ih =>
    intro Q E p s G2 A1 A2 h r kp
    have h' : wp M Γ (k s.gens.size) Q E p { s with gens := s.gens.push (.fresh c) } := h
    show wp M Γ (k G2.size) _ _ p (wg s (G2.push (.fresh c)))
    rw [r.size] at h'
    exact ih _ (s := { s with gens := s.gens.push (.fresh c) }) h' (r.push c) (kp.trans (Kp.push c))
  | call c hd _ _ k ih =>
    intro Q E p s G2 A1 A2 h r kp
    obtain ⟨rr, s', hr, h⟩ := h
    obtain ⟨G3, a, b, c', d⟩ := runs_rl hr rfl G2 r
    exact ⟨rr, wg s' G3, c', ih rr h a (kp.trans d)⟩
  | resume g rr _ k ih =>
    intro Q E p s G2 A1 A2 h r kp
    obtain ⟨res, s', hw, h⟩ := h
    obtain ⟨G3, a, b, d⟩ := wakes_rl hw r
    exact ⟨res, wg s' G3, b, ih res h a (kp.trans d)⟩
/-! ### the form one uses -/
def allDead (G : Array GenState) : Array GenState := G.map dead
theorem rl_dead (G : Array GenState) : Rl (allDead G) G := by
  refine ⟨by simp [allDead], fun i st1 st2 e1 e2 => ?_⟩
  unfold allDead at e1
  rw [Array.getElem?_map, e2] at e1
  cases e1
  cases h : isSus st2 with
  | true => exact .inr ⟨rfl, rfl⟩
  | false =>
    cases st2 with
    | suspended => cases h
    | _ => exact .inl ⟨rfl, trivial⟩
def AllB (gens : Array GenState) : Prop := ∀ y ∈ gens, y.bare = true
theorem allB_dead {G : Array GenState} (h : AllB G) : AllB (allDead G) := fun y hy => by
  unfold allDead at hy
  obtain ⟨z, hz, rfl⟩ := Array.mem_map.mp hy
  rw [dead_bare]
  exact h z hz
theorem allB_rl {G1 G2 : Array GenState} (r : Rl G1 G2) (h : AllB G1) : AllB G2 := fun y hy => by
  obtain ⟨i, hi, rfl⟩ := Array.mem_iff_getElem.mp hy
  have h1 : i < G1.size := by rw [r.size]; exact hi
  have hb := h G1[i] (Array.getElem_mem h1)
  rcases r.at_ i _ _ (Array.getElem?_eq_getElem h1) (Array.getElem?_eq_getElem hi) with ⟨e, _⟩ | ⟨_, e⟩
  · rw [← e]; exact hb
  · rw [e, dead_bare] at hb; exact hb
theorem wpAny_asleep {α : Type} {A : Around} {t : Sem α} {Q : α → Shared → Prop} {E : Value → Shared → Prop} {s : Shared} (h : wpAny M A t Q E (wg s (allDead s.gens))) :
    wpAny M A t (fun a s2 => ∃ (s1 : Shared) (G : Array GenState), s2 = wg s1 G ∧ Rl s1.gens G ∧ (∀ (i : Nat) (st : GenState), isSus st = true → s.gens[i]? = some st → G[i]? = some st) ∧ Q a s1)
      (fun a s2 => ∃ (s1 : Shared) (G : Array GenState), s2 = wg s1 G ∧ Rl s1.gens G ∧ (∀ (i : Nat) (st : GenState), isSus st = true → s.gens[i]? = some st → G[i]? = some st) ∧ E a s1) s := by
  intro Γ p hΓ
  have z := wp_rl t (h Γ p hΓ) (G2 := s.gens) (rl_dead s.gens) (Kp.refl)
  have kd : ∀ {G1 G : Array GenState}, Kp (allDead s.gens) s.gens G1 G → ∀ (i : Nat) (st : GenState), isSus st = true → s.gens[i]? = some st → G[i]? = some st := fun k i st hs e => (k i st hs e (by unfold allDead; rw [Array.getElem?_map, e]; rfl)).1
  refine Sem.wp_mono _ _ t ?_ ?_ _ _ z
  · rintro a p' s2 ⟨s1, G, e, r, k, q⟩
    exact ⟨s1, G, e, r, kd k, q⟩
  · rintro a p' s2 ⟨s1, G, e, r, k, q⟩
    exact ⟨s1, G, e, r, kd k, q⟩
end
end DG
set_option Elab.async false
set_option linter.all false
set_option maxRecDepth 100000
set_option maxHeartbeats 4000000
/-! DG1: one wake of a generator, with what it leaves asleep -/
namespace DG
open PySem PySem.Spec PyProof.Rows
open Sem (wp)
abbrev RX := Result → Shared → Prop
abbrev YX := Value → Shared → Code → (Resume → Sem Fin) → List Frame → Prop
def SegX (M : Model) (A : Around) (R : RX) (Y : YX) (c : Code) (t : Sem Fin) (fs : List Frame) (s : Shared) : Prop :=
  ∀ Γ p, Γ.code = c → Γ.Woken A → ∃ e s', Runs M Γ p t fs s e s' ∧ match e with
    | .ret r => R r s'
    | .susp v g l k c' p' fs' => (End.susp v g l k c' p' fs').quiet = true ∧ okE (End.susp v g l k c' p' fs') ∧ Y v s' c' k fs'
section
variable {M : Model} {A : Around} {R : RX} {Y : YX} {c : Code} {fs : List Frame} {s : Shared}
theorem segx_wrap {α : Type} {m : Sem α} {K : α → Sem Fin} {H : Value → Sem Fin} {gd lv}
    (h : wpAny M (A.over c fs) m (fun a s' => SegX M A R Y c (K a) fs s') (fun x s' => SegX M A R Y c (H x) fs s') s) :
    SegX M A R Y c (m.wrap K H gd lv) fs s := by
  rintro Γ p rfl hΓ
  exact runs_wrap_of_wp K H gd lv m (h (Γ.over fs) p (hΓ.over fs)) (fun a p' s' h' => h' Γ p' rfl hΓ) (fun x p' s' h' => h' Γ p' rfl hΓ)
theorem segx_point {l : List Value} {k : Unit → Sem Fin} (h : SegX M A R Y c (k ()) fs s) : SegX M A R Y c (.point l k) fs s :=
  segx_wrap (m := point) (K := k) (H := .raise) (gd := id) (lv := fun _ => l) (wpAny_point h)
theorem segx_end (r : Result) (h : R r s) : SegX M A R Y c (leafOf r) [] s := by
  rintro Γ p rfl _
  exact ⟨.ret r, s, Runs.leaf r, h⟩
end
section
variable {prog : Program} {w : World} {A : Around} {R : RX} {Y : YX} {fs : List Frame} {s : Shared} {env : Env}
theorem segx_func {body : List Stmt}
    (h : SegX (model prog w) A R Y (.func body env) ((execs body env).wrap (fun f => .pure (.done (.ret (match f with | .ret v => v | _ => .none))))
      (fun e => (leaving env e).wrap (fun _ => .raise e) .raise id id) id id) fs s) :
    SegX (model prog w) A R Y (.func body env) ((model prog w).den (.func body env)) fs s := by
  show SegX _ A R Y _ (.point [] fun _ => ((execs body env).onRaise (leaving env)) >>= _) fs s
  refine segx_point ?_
  rw [Sem.onRaise_eq_wrap, Sem.bind_eq_wrap', Sem.wrap_wrap]
  rw [Sem.wrap_congr (execs body env) _ _ (K' := fun f => .pure (.done (.ret (match f with | .ret v => v | _ => .none))))
    (H' := fun e => (leaving env e).wrap (fun _ => .raise e) .raise id id) (fun f => by cases f <;> rfl)
    (fun e => by rw [Sem.bind_eq_wrap, Sem.wrap_wrap]; rfl)]
  exact h
end
end DG
set_option Elab.async false
set_option linter.all false
set_option maxRecDepth 100000
set_option maxHeartbeats 4000000
/-! DG2: a heap cut off, a ghost that pins what is young -/
namespace DG
open DL
open PySem PySem.Spec PyProof.Rows L2
/-! ### a heap's first objects -/
def cutH (h : Heap) (L : Nat) : Heap := ⟨h.objs.extract 0 L, h.life⟩
theorem cutH_size {h : Heap} {L : Nat} (hl : L ≤ h.objs.size) : (cutH h L).objs.size = L := by
  unfold cutH
  simp [Array.size_extract]
  omega
/-! ### what is young and no one's -/
def young (h : Heap) (H : Hp) (L : Nat) (own : List Addr) (b : Addr) : Prop := L ≤ b ∧ H b = none ∧ (∃ o, h.get? b = some o) ∧ b ∉ own
open Classical in
noncomputable def frzH (h : Heap) (H : Hp) (L : Nat) (own : List Addr) : Hp := fun b => if young h H L own b then (h.get? b).map (fun o => .frz o (.own 0)) else H b
/-! ### taking the pins away again -/
theorem REnv.app {G : Gx} {ι : Ix} {S : Sto} {H : Hp} {σ τ : L2.St} {ρ θ : DL.Env} (a : REnv G ι S H σ ρ) (b : REnv G ι S H τ θ) : REnv G ι S H (σ ++ τ) (ρ ++ θ) := by
  refine ⟨by rw [List.length_append, List.length_append, a.len, b.len], fun i d q => ?_⟩
  by_cases hi : i < ρ.length
  · rw [List.getElem?_append_left hi] at q
    obtain ⟨v, h1, h2⟩ := a.at_ i d q
    exact ⟨v, by rw [List.getElem?_append_left (by rw [a.len]; exact hi)]; exact h1, h2⟩
  · rw [List.getElem?_append_right (by omega)] at q
    obtain ⟨v, h1, h2⟩ := b.at_ _ d q
    exact ⟨v, by rw [List.getElem?_append_right (by rw [a.len]; omega), a.len]; exact h1, h2⟩
end DG
set_option Elab.async false
set_option linter.all false
set_option maxRecDepth 100000
set_option maxHeartbeats 4000000
/-! DG3: the context in which a generator's body runs on from a wake, and the way back -/
namespace DG
open DL
open PySem PySem.Spec PyProof.Rows L2
structure GnScope (N ps : List Str) (sc : Scope) : Prop where
  kind : sc.kind = .function
  co : sc.isCoroutine = false
  gen : sc.isGenerator = true
  nd : N.Nodup
  pre : N.take ps.length = ps
  par : ∀ x ∈ ps, sc.names.lookup x = some .local
  nocell : ∀ x, sc.names.lookup x ≠ some .cell ∧ sc.names.lookup x ≠ some .free
  cells : ∀ n, cellsFrom n sc.names [] = []
abbrev GnX (G : Gx) (k : Nat) (N : List Str) (qual : Str) (scope : Scope) (f : Addr) : FIdx k qual scope f → Cx :=
  fun i => { FnX G k N qual scope f (fun _ _ _ => False) i with xe := fun _ _ => False }
/-- who wakes it, when -/
structure Wk (G : Gx) (k : Nat) (qual : Str) (scope : Scope) (f : Addr) (L : Nat) (cdv : Value) (A : Around) (outer : List PySem.Env) (s : Shared) (H : Hp) : Prop where
  e0 : Env0 G.P G.w G.K G.mg G.base A outer s H
  bsz : G.base.objs.size ≤ L
  old : ∀ b ∈ frs outer, @LT.lt Nat _ b L
  room : Room k (A.deeper (envOfC qual scope L f cdv))
  gd : A.guards = some []
  le : L ≤ s.heap.objs.size
section
variable {G : Gx} {k : Nat} {N ps : List Str} {qual : Str} {scope : Scope} {f : Addr} {L : Nat} {cdv : Value} {A : Around} {outer : List PySem.Env} {s s1 : Shared} {H H1 : Hp}
abbrev cutS (s : Shared) (L : Nat) : Shared := { s with heap := cutH s.heap L }
noncomputable def Wk.ix (w : Wk G k qual scope f L cdv A outer s H) (own : List Addr) : FIdx k qual scope f :=
  ⟨cdv, A, outer, cutS s L, frzH s.heap H L own, by
    have e : (cutS s L).heap.objs.size = L := cutH_size w.le
    rw [e]
    exact w.room, w.gd⟩
theorem Wk.env (w : Wk G k qual scope f L cdv A outer s H) (own : List Addr) : (GnX G k N qual scope f (w.ix own)).env = envOfC qual scope L f cdv := by
  show envOfC qual scope (cutS s L).heap.objs.size f cdv = _
  have e : (cutS s L).heap.objs.size = L := cutH_size w.le
  rw [e]
/-- what stands in the generator's own objects: its names' values -/
def Locs (N : List Str) (qual : Str) (scope : Scope) (f : Addr) (cdv : Value) (L : Nat) (σ : L2.St) (h : Heap) : Prop :=
  ∃ m, h.Ns L m ∧ ∀ (i : Nat) (x : Str) (v : V), N[i]? = some x → σ[i]? = some (some v) → Vis scope x → ∃ u, RelV v u ∧ Look (envOfC qual scope L f cdv) h m x u
theorem Locs.keep {σ : L2.St} {h h' : Heap} (S : GnScope N ps scope) (x : Locs N qual scope f cdv L σ h) (e : ∀ o, h.get? L = some o → h'.get? L = some o) : Locs N qual scope f cdv L σ h' := by
  obtain ⟨m, ⟨o, es, ep, ho, r⟩, hm⟩ := x
  refine ⟨m, ⟨o, es, ep, e o ho, r⟩, fun i x v h1 h2 h3 => ?_⟩
  obtain ⟨u, ru, hl⟩ := hm i x v h1 h2 h3
  refine ⟨u, ru, ?_⟩
  rcases hl with hl | ⟨_, c, hc, _⟩
  · exact .inl hl
  · exfalso
    have : (cellsFrom (L + 1) scope.names []).lookup x = some c := hc
    rw [S.cells] at this
    cases this
end
end DG
set_option Elab.async false
set_option linter.all false
set_option maxRecDepth 100000
set_option maxHeartbeats 4000000
/-! DG4: a generator's body, statement by statement: what it will hand out -/
namespace DG
open DL
open PySem PySem.Spec PyProof.Rows L2 GenW
theorem wpAny_rl {M : Model} {α : Type} {A : Around} {t : Sem α} {Q : α → Shared → Prop} {E : Value → Shared → Prop} {s : Shared} {G2 : Array GenState} (h : wpAny M A t Q E s) (r : Rl s.gens G2) :
    wpAny M A t (fun a s2 => ∃ (s1 : Shared) (G : Array GenState), s2 = wg s1 G ∧ Rl s1.gens G ∧ Kp s.gens G2 s1.gens G ∧ Q a s1) (fun a s2 => ∃ (s1 : Shared) (G : Array GenState), s2 = wg s1 G ∧ Rl s1.gens G ∧ Kp s.gens G2 s1.gens G ∧ E a s1) (wg s G2) := by
  intro Γ p hΓ
  have z := wp_rl t (h Γ p hΓ) r (Kp.refl (G1 := s.gens) (G2 := G2))
  refine Sem.wp_mono _ _ t ?_ ?_ _ _ z
  · rintro a p' s2 ⟨s1, G, e, r, k, q⟩
    exact ⟨s1, G, e, r, k, q⟩
  · rintro a p' s2 ⟨s1, G, e, r, k, q⟩
    exact ⟨s1, G, e, r, k, q⟩
theorem Inv.gens {X : Cx} {pins : List (Addr × Obj)} {σ : L2.St} {H : Hp} {s : Shared} {G2 : Array GenState} (I : Inv X pins σ H s) (h : AllBare G2) : Inv X pins σ H (wg s G2) :=
  ⟨I.ok, I.os, h, I.base, I.loc, I.cell, I.free, I.freeC, I.pin, I.hok, I.len⟩
/-- these generators sleep -/
def Zz (g : Nat) (gp : List (Nat × GenState)) (s : Shared) : Prop := ∀ p ∈ gp, s.gens[p.1]? = some p.2 ∧ isSus p.2 = true ∧ g < p.1
/-- generators of a generator, asleep, and what they hold -/
structure Gp where
  l : List (Nat × GenState)
  τ : L2.St
  ρ : DL.Env
abbrev noE : WK := fun _ _ _ _ => False
section
variable (G : Gx) (k : Nat) (N : List Str) (qual : Str) (scope : Scope) (f : Addr) (L : Nat) (cdv : Value)
/-- a wake -/
structure At where
  A : Around
  outer : List PySem.Env
  s : Shared
  H : Hp
  w : Wk G k qual scope f L cdv A outer s H
  own : List Addr
  ι : Ix
  T : Sto
end
section
variable {G : Gx} {k : Nat} {N ps : List Str} {qual : Str} {scope : Scope} {f : Addr} {L : Nat} {cdv : Value}
noncomputable abbrev At.X (N : List Str) (a : At G k qual scope f L cdv) : Cx := GnX G k N qual scope f (a.w.ix a.own)
def Core (N : List Str) (a : At G k qual scope f L cdv) (gp : Gp) (ip : List (Addr × Obj)) (ρ : DL.Env) (P : Ix → Hp → Prop) (s1 : Shared) : Prop :=
  ∃ σ H1 ι1, Inv (a.X N) ip σ H1 s1 ∧ Ext a.ι a.T (frzH a.s.heap a.H L a.own) ι1 a.T H1 ∧ Rel G ι1 a.T H1 ∧ REnv G ι1 a.T H1 σ ρ ∧ REnv G ι1 a.T H1 gp.τ gp.ρ ∧ P ι1 H1
abbrev noP : Ix → Hp → Prop := fun _ _ => True
structure Mid (N : List Str) (a : At G k qual scope f L cdv) (g : Nat) (gp : Gp) (ip : List (Addr × Obj)) (ρ : DL.Env) (P : Ix → Hp → Prop) (s1 : Shared) : Prop where
  core : Core N a gp ip ρ P s1
  sz : g < s1.gens.size
  zz : Zz g gp.l s1
  ipl : ∀ p ∈ ip, @LE.le Nat _ L p.1
theorem Core.bare {a : At G k qual scope f L cdv} {gp : Gp} {ip : List (Addr × Obj)} {ρ : DL.Env} {P : Ix → Hp → Prop} {s1 : Shared} (h : Core N a gp ip ρ P s1) : AllBare s1.gens := by
  obtain ⟨_, _, _, I, _⟩ := h
  exact I.bare
theorem Core.gens {a : At G k qual scope f L cdv} {gp : Gp} {ip : List (Addr × Obj)} {ρ : DL.Env} {P : Ix → Hp → Prop} {s1 : Shared} {G2 : Array GenState} (h : Core N a gp ip ρ P s1) (hb : AllBare G2) : Core N a gp ip ρ P (wg s1 G2) := by
  obtain ⟨σ, H1, ι1, I, r⟩ := h
  exact ⟨σ, H1, ι1, Inv.gens I hb, r⟩
theorem Core.imp {a : At G k qual scope f L cdv} {gp : Gp} {ip : List (Addr × Obj)} {ρ : DL.Env} {P P' : Ix → Hp → Prop} {s1 : Shared} (h : Core N a gp ip ρ P s1) (hp : ∀ ι H, P ι H → P' ι H) : Core N a gp ip ρ P' s1 := by
  obtain ⟨σ, H1, ι1, I, x, R, e, eg, p⟩ := h
  exact ⟨σ, H1, ι1, I, x, R, e, eg, hp _ _ p⟩
theorem Mid.imp {a : At G k qual scope f L cdv} {g : Nat} {gp : Gp} {ip : List (Addr × Obj)} {ρ : DL.Env} {P P' : Ix → Hp → Prop} {s1 : Shared} (h : Mid N a g gp ip ρ P s1) (hp : ∀ ι H, P ι H → P' ι H) : Mid N a g gp ip ρ P' s1 := ⟨h.core.imp hp, h.sz, h.zz, h.ipl⟩
/-- a run amid which the others sleep -/
theorem sleeping {α : Type} {M : Model} {B : Around} {t : Sem α} {Q : α → Shared → Prop} {E : Value → Shared → Prop} {s1 : Shared} {g : Nat} {gp : List (Nat × GenState)} (sz : g < s1.gens.size) (zz : Zz g gp s1)
    (h : wpAny M B t Q (fun _ _ => False) (wg s1 (allDead s1.gens))) (hb : ∀ v s2, Q v s2 → AllBare s2.gens) :
    wpAny M B t (fun v s2 => ∃ s3, s2 = wg s3 s2.gens ∧ Q v s3 ∧ AllBare s2.gens ∧ g < s2.gens.size ∧ Zz g gp s2) E s1 := by
  refine wpAny_gsz (n := g + 1) sz (wpAny_mono (wpAny_asleep h) (fun v s2 q => ?_) fun e s2 q => ?_)
  · obtain ⟨s3, G2, rfl, r, ks, q⟩ := q
    exact fun hsz => ⟨s3, rfl, q, allB_rl r (hb v s3 q), hsz, fun p hp => ⟨ks p.1 p.2 (zz p hp).2.1 (zz p hp).1, (zz p hp).2⟩⟩
  · obtain ⟨_, _, _, _, _, q⟩ := q
    exact q.elim
theorem Mid.run {α : Type} {B : Around} {M : Model} {t : Sem α} {a : At G k qual scope f L cdv} {g : Nat} {gp : Gp} {ip : List (Addr × Obj)} {ρ ρ' : DL.Env} {P : Ix → Hp → Prop} {P' : α → Ix → Hp → Prop} {E : Value → Shared → Prop} {s1 : Shared} (m : Mid N a g gp ip ρ P s1)
    (h : ∀ s', Core N a gp ip ρ P s' → wpAny M B t (fun v s2 => Core N a gp ip ρ' (P' v) s2) (fun _ _ => False) s') : wpAny M B t (fun v s2 => Mid N a g gp ip ρ' (P' v) s2) E s1 := by
  refine wpAny_mono (sleeping m.sz m.zz (h _ (m.core.gens (allB_dead m.core.bare))) fun v s2 q => q.bare) (fun v s2 q => ?_) fun _ _ q => q
  obtain ⟨s3, e, q, hb, sz, zz⟩ := q
  exact ⟨by rw [e]; exact q.gens hb, sz, zz, m.ipl⟩
section
variable {a : At G k qual scope f L cdv} {g : Nat} {gp : Gp} {ip : List (Addr × Obj)} {ρ : DL.Env} {P : Ix → Hp → Prop} {E : Value → Shared → Prop} {s1 : Shared}
abbrev gEnv (qual : Str) (scope : Scope) (f : Addr) (L : Nat) (cdv : Value) : PySem.Env := envOfC qual scope L f cdv
theorem at_env (a : At G k qual scope f L cdv) : (a.X N).env = gEnv qual scope f L cdv := a.w.env a.own
/-- an expression -/
theorem Core.pe {e : Expr} {c : ECode} {d : D} (he : DE (GnX G k N qual scope f) G noE e c) (hc : ∀ S, c ρ S = .ok d S) (m : Core N a gp ip ρ P s1) :
    wpAny (model G.P G.w) (a.A.deeper (gEnv qual scope f L cdv)) (eval e (gEnv qual scope f L cdv)) (fun v s2 => Core N a gp ip ρ (fun ι1 H1 => ∃ x, RelV x v ∧ Rep G ι1 (Lv ι1 a.T) H1 x d) s2) (fun _ _ => False) s1 := by
  obtain ⟨t, pe, sn⟩ := he
  obtain ⟨σ, H1, ι1, I, x, R, e1, eg, p⟩ := m
  have z := (pe (a.w.ix a.own)).run ip s1 σ H1 (fun v H2 => ∃ ι2, Ext a.ι a.T (frzH a.s.heap a.H L a.own) ι2 a.T H2 ∧ Rel G ι2 a.T H2 ∧ REnv G ι2 a.T H2 σ ρ ∧ REnv G ι2 a.T H2 gp.τ gp.ρ ∧ Rep G ι2 (Lv ι2 a.T) H2 v d) I
    (sn ι1 a.T H1 σ ρ _ R e1 (by rw [hc]; exact fun ι2 H2 x2 R2 v r => ⟨ι2, x.trans x2, R2, e1.mono x2, eg.mono x2, r⟩))
  rw [← at_env (N := N) a]
  refine wpAny_mono z (fun v s2 ⟨y, H2, I2, rv, ι2, x2, R2, e2, g2, r2⟩ => ?_) fun _ _ q => q
  exact ⟨σ, H2, ι2, I2, x2, R2, e2, g2, y, rv, r2⟩
theorem Mid.pe {e : Expr} {c : ECode} {d : D} (he : DE (GnX G k N qual scope f) G noE e c) (hc : ∀ S, c ρ S = .ok d S) (m : Mid N a g gp ip ρ P s1) :
    wpAny (model G.P G.w) (a.A.deeper (gEnv qual scope f L cdv)) (eval e (gEnv qual scope f L cdv)) (fun v s2 => Mid N a g gp ip ρ (fun ι1 H1 => ∃ x, RelV x v ∧ Rep G ι1 (Lv ι1 a.T) H1 x d) s2) E s1 :=
  m.run fun s' m' => m'.pe he hc
/-- a test -/
theorem Mid.pt {e : Expr} {c : TCode} {b : Bool} (he : DT (GnX G k N qual scope f) G noE e c) (hc : ∀ S, c ρ S = .ok b S) (m : Mid N a g gp ip ρ P s1) :
    wpAny (model G.P G.w) (a.A.deeper (gEnv qual scope f L cdv)) (isTrue e (gEnv qual scope f L cdv) (eval e (gEnv qual scope f L cdv))) (fun v s2 => Mid N a g gp ip ρ (fun _ _ => v = b) s2) E s1 := by
  refine m.run fun s' m' => ?_
  obtain ⟨t, pe, sn⟩ := he
  obtain ⟨σ, H1, ι1, I, x, R, e1, eg, p⟩ := m'
  have z := (pe (a.w.ix a.own)).run ip s' σ H1 (fun v H2 => ∃ ι2, Ext a.ι a.T (frzH a.s.heap a.H L a.own) ι2 a.T H2 ∧ Rel G ι2 a.T H2 ∧ REnv G ι2 a.T H2 σ ρ ∧ REnv G ι2 a.T H2 gp.τ gp.ρ ∧ v = b) I
    (sn ι1 a.T H1 σ ρ _ R e1 (by rw [hc]; exact fun ι2 H2 x2 R2 => ⟨ι2, x.trans x2, R2, e1.mono x2, eg.mono x2, rfl⟩))
  rw [← at_env (N := N) a]
  refine wpAny_mono z (fun v s2 ⟨H2, I2, ι2, x2, R2, e2, g2, r2⟩ => ?_) fun _ _ q => q
  exact ⟨σ, H2, ι2, I2, x2, R2, e2, g2, r2⟩
end
/-! ### what a code will hand out -/
section
variable (G k N qual scope f L cdv)
def CEnd (g : Nat) (outs : List D) (a : At G k qual scope f L cdv) : RX := fun r s2 => outs = [] ∧ (r = .ok (.ret .none) ∨ r = .ok .next) ∧ ∃ ip2 gp2 ρ2, Mid N a g gp2 ip2 ρ2 noP s2
def Cont (g : Nat) : List D → Sem PySem.Fin → Code → List Frame → List (Addr × Obj) → Gp → DL.Env → Prop
  | [], t, c, fs, ip, gp, ρ => ∀ (a : At G k qual scope f L cdv) s1, Mid N a g gp ip ρ noP s1 → SegX (model G.P G.w) a.A (CEnd G k N qual scope f L cdv g [] a) (fun _ _ _ _ _ => False) c t fs s1
  | d :: ds, t, c, fs, ip, gp, ρ => ∀ (a : At G k qual scope f L cdv) s1, Mid N a g gp ip ρ noP s1 → SegX (model G.P G.w) a.A (fun _ _ => False)
      (fun v s2 c' kk fs' => ∃ ip2 gp2 ρ2, Mid N a g gp2 ip2 ρ2 (fun ι1 H1 => ∃ x, RelV x v ∧ Rep G ι1 (Lv ι1 a.T) H1 x d) s2 ∧ Cont g ds (kk (.send .none)) c' fs' ip2 gp2 ρ2) c t fs s1
end
section
variable {g : Nat} {outs rest : List D} {t t' : Sem PySem.Fin} {c c' : Code} {fs fs' : List Frame} {ip ip' : List (Addr × Obj)} {gp gp' : Gp} {ρ ρ' : DL.Env}
/-- THE STEP -/
theorem Cont.intro (h : ∀ (a : At G k qual scope f L cdv) s1 (R : RX) (Y : YX), Mid N a g gp ip ρ noP s1 →
      (∀ c' t' fs' ip' gp' ρ' s2, Cont G k N qual scope f L cdv g outs t' c' fs' ip' gp' ρ' → Mid N a g gp' ip' ρ' noP s2 → SegX (model G.P G.w) a.A R Y c' t' fs' s2) → SegX (model G.P G.w) a.A R Y c t fs s1) :
    Cont G k N qual scope f L cdv g outs t c fs ip gp ρ := by
  cases outs with
  | nil => exact fun a s1 m => h a s1 _ _ m fun c' t' fs' ip' gp' ρ' s2 hc m2 => hc a s2 m2
  | cons d ds => exact fun a s1 m => h a s1 _ _ m fun c' t' fs' ip' gp' ρ' s2 hc m2 => hc a s2 m2
theorem Cont.conv (h : ∀ (a : At G k qual scope f L cdv) s1 (R : RX) (Y : YX), SegX (model G.P G.w) a.A R Y c' t' fs' s1 → SegX (model G.P G.w) a.A R Y c t fs s1) (hc : Cont G k N qual scope f L cdv g outs t' c' fs' ip gp ρ) :
    Cont G k N qual scope f L cdv g outs t c fs ip gp ρ := Cont.intro fun a s1 R Y m k => h a s1 R Y (k _ _ _ _ _ _ _ hc m)
/-- where a code stands -/
structure Side (qual : Str) (scope : Scope) (f : Addr) (L : Nat) (cdv : Value) (c : Code) (fs : List Frame) (gd : Bool → Bool) : Prop where
  over : ∀ A : Around, A.over c fs = A.deeper (gEnv qual scope f L cdv)
  split : splitAtGen fs = none
  fg : fs.any Frame.guarded = false
  gd : gd false = false
abbrev GRel := DL.Env → List D → DL.Env → Prop
/-- what may sleep ahead of it -/
abbrev ZP := Gp → Prop
variable (G k N qual scope f L cdv) in
def GSts (Z : ZP) (sts : List Stmt) (R : GRel) : Prop := ∀ outs ρ ρ', R ρ outs ρ' → ∀ (g : Nat) (rest : List D) (c : Code) (fs : List Frame) (K : Flow → Sem PySem.Fin) (H : Value → Sem PySem.Fin) (gd : Bool → Bool) (lv : List Value → List Value) (ip : List (Addr × Obj)) (gp : Gp), Z gp → Side qual scope f L cdv c fs gd →
  Cont G k N qual scope f L cdv g rest (K .next) c fs ip gp ρ' → Cont G k N qual scope f L cdv g (outs ++ rest) ((execs sts (gEnv qual scope f L cdv)).wrap K H gd lv) c fs ip gp ρ
end
end
end DG
set_option Elab.async false
set_option linter.all false
set_option maxRecDepth 100000
set_option maxHeartbeats 4000000
/-! DG5: a loop over a range in a generator's body -/
namespace DG
open DL
open PySem PySem.Spec PyProof.Rows L2 GenW
/-! ### amid sleeping ones: the state, and the state in which nothing can wake them -/
structure Pr (n : Nat) (gp : List (Nat × GenState)) (s3 s2 : Shared) : Prop where
  eq : s2 = wg s3 s2.gens
  rl : Rl s3.gens s2.gens
  sz : n ≤ s2.gens.size
  zz : ∀ p ∈ gp, s2.gens[p.1]? = some p.2 ∧ isSus p.2 = true ∧ n ≤ p.1 ∧ s3.gens[p.1]? = some (dead p.2)
/-- these generators sleep, their numbers from n on -/
def Zn (n : Nat) (gp : List (Nat × GenState)) (s : Shared) : Prop := ∀ p ∈ gp, s.gens[p.1]? = some p.2 ∧ isSus p.2 = true ∧ n ≤ p.1
section
variable {n : Nat} {gp : List (Nat × GenState)} {s1 s2 s3 : Shared}
theorem Pr.runE {α : Type} {M : Model} {B : Around} {t : Sem α} {Q : α → Shared → Prop} {E : Value → Shared → Prop} (r : Pr n gp s3 s2) (h : wpAny M B t Q E s3) : wpAny M B t (fun v s5 => ∃ s4, Pr n gp s4 s5 ∧ Q v s4) (fun v s5 => ∃ s4, Pr n gp s4 s5 ∧ E v s4) s2 := by
  have z := wpAny_rl h r.rl
  rw [← r.eq] at z
  have fin : ∀ {G2 : Array GenState} {s4 : Shared}, Rl s4.gens G2 → Kp s3.gens s2.gens s4.gens G2 → n ≤ G2.size → Pr n gp s4 (wg s4 G2) := fun {G2 s4} rl ks hsz => ⟨rfl, rl, hsz, fun p hp => by
    obtain ⟨z1, z2, z3, z4⟩ := r.zz p hp
    obtain ⟨k1, k2⟩ := ks p.1 p.2 z2 z1 z4
    exact ⟨k1, z2, z3, k2⟩⟩
  refine wpAny_gsz (n := n) r.sz (wpAny_mono z (fun v s5 q => ?_) fun e s5 q => ?_)
  · obtain ⟨s4, G2, rfl, rl, ks, q⟩ := q
    exact fun hsz => ⟨s4, fin rl ks hsz, q⟩
  · obtain ⟨s4, G2, rfl, rl, ks, q⟩ := q
    exact fun hsz => ⟨s4, fin rl ks hsz, q⟩
theorem Pr.run {α : Type} {M : Model} {B : Around} {t : Sem α} {Q : α → Shared → Prop} {E : Value → Shared → Prop} (r : Pr n gp s3 s2) (h : wpAny M B t Q (fun _ _ => False) s3) : wpAny M B t (fun v s5 => ∃ s4, Pr n gp s4 s5 ∧ Q v s4) E s2 :=
  wpAny_mono (r.runE h) (fun _ _ q => q) fun _ _ q => by
    obtain ⟨_, _, q⟩ := q
    exact q.elim
theorem Pr.heap (r : Pr n gp s3 s2) : s2.heap = s3.heap := by rw [r.eq]
theorem Pr.fin (r : Pr n gp s3 s2) (hb : AllBare s3.gens) : AllBare s2.gens ∧ n ≤ s2.gens.size ∧ Zn n gp s2 := ⟨allB_rl r.rl hb, r.sz, fun p hp => ⟨(r.zz p hp).1, (r.zz p hp).2.1, (r.zz p hp).2.2.1⟩⟩
end
/-! ### range -/
end DG
set_option Elab.async false
set_option linter.all false
set_option maxRecDepth 100000
set_option maxHeartbeats 4000000
/-! DG6: a sleeping generator, as who walks it sees it; next -/
namespace DG
open DL
open PySem PySem.Spec PyProof.Rows L2 GenW
/-- what a generator's state will hand out -/
def ContS (G : Gx) (k : Nat) (N : List Str) (qual : Str) (scope : Scope) (f : Addr) (L : Nat) (cdv : Value) (g : Nat) (outs : List D) (gs : GenState) (ip : List (Addr × Obj)) (gp : Gp) (ρ : DL.Env) : Prop :=
  match gs with
  | .fresh c => Cont G k N qual scope f L cdv g outs ((model G.P G.w).den c) c [] ip gp ρ
  | .suspended kf _ c _ fs _ => Cont G k N qual scope f L cdv g outs (kf (.send .none)) c fs ip gp ρ
  | _ => False
/-- a generator that will hand out outs: its object a, its number g, its objects fp, itself and its own generators gk; OL: who is older -/
structure SlpX (G : Gx) (k : Nat) (OL : Nat → Prop) (outs : List D) (a : Addr) (g : Nat) (fp : List (Addr × Obj)) (gk : List (Nat × GenState))
    (N ps : List Str) (qual : Str) (scope : Scope) (f : Addr) (L : Nat) (cdv : Value) (gs : GenState) (ip : List (Addr × Obj)) (gp : Gp) (ρ : DL.Env) (τ : L2.St) (oL go : Obj) : Prop where
  sc : GnScope N ps scope
  efp : fp = (a, go) :: (L, oL) :: ip
  egk : gk = (g, gs) :: gp.l
  isg : ∀ h : Heap, h.get? a = some go → h.IsGen a g
  loc : ∀ h : Heap, h.get? L = some oL → Locs N qual scope f cdv L τ h
  len : τ.length = N.length
  cont : ContS G k N qual scope f L cdv g outs gs ip gp ρ
  ips : ∀ p ∈ ip, @LE.le Nat _ L p.1 ∧ p.1 ≠ L ∧ p.1 ≠ a
  aL : a ≠ L
  cel : ∀ p ∈ fp, ∀ v, p.2.data ≠ .cell v
  bs : G.base.objs.size ≤ L
  old : OL L
  gps : ∀ p ∈ gp.l, isSus p.2 = true ∧ g < p.1
def Slp (G : Gx) (k : Nat) (OL : Nat → Prop) (outs : List D) (a : Addr) (g : Nat) (fp : List (Addr × Obj)) (gk : List (Nat × GenState)) (ι : Ix) (T : Sto) (H : Hp) : Prop :=
  ∃ N ps qual scope f L cdv gs ip gp ρ τ oL go, SlpX G k OL outs a g fp gk N ps qual scope f L cdv gs ip gp ρ τ oL go ∧ REnv G ι T H τ ρ ∧ REnv G ι T H gp.τ gp.ρ
/-- it stands so -/
structure Held (X : Cx) (pins : List (Addr × Obj)) (H : Hp) (s : Shared) (fp : List (Addr × Obj)) (gk : List (Nat × GenState)) : Prop where
  at_ : ∀ p ∈ fp, s.heap.get? p.1 = some p.2 ∧ FpOk X pins H p.1
  gs : ∀ p ∈ gk, s.gens[p.1]? = some p.2
theorem Slp.mono {G : Gx} {k : Nat} {OL : Nat → Prop} {outs : List D} {a : Addr} {g : Nat} {fp : List (Addr × Obj)} {gk : List (Nat × GenState)} {ι ι1 : Ix} {T T1 : Sto} {H H1 : Hp} (h : Slp G k OL outs a g fp gk ι T H) (x : Ext ι T H ι1 T1 H1) : Slp G k OL outs a g fp gk ι1 T1 H1 := by
  obtain ⟨N, ps, qual, scope, f, L, cdv, gs, ip, gp, ρ, τ, oL, go, h, e1, e2⟩ := h
  exact ⟨N, ps, qual, scope, f, L, cdv, gs, ip, gp, ρ, τ, oL, go, h, e1.mono x, e2.mono x⟩
end DG
set_option Elab.async false
set_option linter.all false
set_option maxRecDepth 100000
set_option maxHeartbeats 4000000
/-! DG7: making a generator -/
namespace DG
open DL
open PySem PySem.Spec PyProof.Rows L2 GenW
/-- no generators of its own -/
abbrev gp0 : Gp := ⟨[], [], []⟩
/-- a generator that has not begun -/
def Made (G : Gx) (k : Nat) (outs : List D) (u : Value) (ι : Ix) (T : Sto) (H : Hp) (s s' : Shared) : Prop :=
  ∃ a g fp gk, u = .ref a ∧ (∀ OL : Nat → Prop, OL s.heap.objs.size → Slp G k OL outs a g fp gk ι T H) ∧ (∀ p ∈ fp, s'.heap.get? p.1 = some p.2 ∧ s.heap.objs.size ≤ p.1) ∧ (∀ p ∈ gk, s'.gens[p.1]? = some p.2) ∧ s'.os = s.os ∧ AllBare s'.gens ∧
    (∀ b o, s.heap.get? b = some o → s'.heap.get? b = some o) ∧ s.gens.size ≤ g ∧ s'.heap.IsGen a g
def GnB (G : Gx) (k : Nat) (f : Addr) (fd : FuncData) (ps : List Str) (sp : List D → Option (List D)) : Prop :=
  ∀ (A : Around) (outer : List PySem.Env) (s : Shared) (H : Hp) (args : Args) (us : List Value) (vs : List V) (ι : Ix) (T : Sto) (ds outs : List D), Room k A → Env0 G.P G.w G.K G.mg G.base A outer s H →
    BindsTo s fd args (ps.zip us) → Vals vs us → Rel G ι T H → Reps G ι (Lv ι T) H vs ds → ds.length = ps.length → sp ds = some outs → codeAny (model G.P G.w) A (.call (.ref f) args) (fun r s' => match r with | .ok (.ret u) => Made G k outs u ι T H s s' | _ => False) s
theorem locs_start {G : Gx} {N ps : List Str} {qual : Str} {scope : Scope} {f : Addr} {cdv : Value} {s s1 : Shared} {us : List Value} {vs : List V} (S : GnScope N ps scope) (r : Vals vs us) (hl : vs.length = ps.length)
    (x : InCallC s s.heap.objs.size (bindL (envOfC qual scope s.heap.objs.size f cdv).kindOf (ps.zip us) fun _ => none) (cellsFrom (s.heap.objs.size + 1) scope.names []) (bindC (envOfC qual scope s.heap.objs.size f cdv).kindOf (ps.zip us) fun _ => none) s1) :
    Locs N qual scope f cdv s.heap.objs.size (L2.start N vs) s1.heap ∧ (L2.start N vs).length = N.length := by
  have hpl : ps.length ≤ N.length := by have := congrArg List.length S.pre; rw [List.length_take] at this; omega
  refine ⟨⟨_, x.toInCall.ns, fun i y v h1 h2 h3 => ?_⟩, ?_⟩
  · have hi : i < vs.length := by
      unfold L2.start at h2
      by_cases hi : i < vs.length
      · exact hi
      · rw [List.getElem?_append_right (by simpa using hi)] at h2
        rw [List.getElem?_replicate] at h2
        split at h2 <;> cases h2
    have ha : vs[i]? = some v := by
      unfold L2.start at h2
      rw [List.getElem?_append_left (by simpa using hi), List.getElem?_map] at h2
      cases e : vs[i]? with
      | none => rw [e] at h2; cases h2
      | some a => rw [e] at h2; cases h2; rfl
    obtain ⟨u, hu, rv⟩ := r.get ha
    have hp : ps[i]? = some y := by
      rw [← S.pre, List.getElem?_take_of_lt (by omega)]; exact h1
    have ndP : ps.Nodup := by rw [← S.pre]; exact S.nd.sublist (List.take_sublist _ _)
    have k := S.par y (List.mem_of_getElem? hp)
    exact ⟨u, rv, .inl ⟨k, bindL_get ndP hp hu k⟩⟩
  · unfold L2.start
    rw [List.length_append, List.length_map, List.length_replicate]
    omega
theorem GnB.of {G : Gx} {x qual : Str} {st : Stmt} {f : Addr} {fd : FuncData} {N ps : List Str} {k : Nat} {R : GRel} {sp : List D → Option (List D)} (F : Fun G.K x qual st f fd) (Sc : GnScope N ps (defScope st))
    (hb : ∀ L cdv, GSts G k N qual (defScope st) f L cdv (fun gp => gp = gp0) (defBody st) R) (hs : ∀ ds outs, sp ds = some outs → ∃ ρ', R (ds.map some ++ List.replicate (N.length - ds.length) none) outs ρ') : GnB G k f fd ps sp := by
  obtain ⟨oc, od, kV, doc, pm, an, cdv, ct, osl, rfl, lk, hcd⟩ := F.ex
  intro A outer s H args us vs ι T ds outs hr e0 hbi r R0 rs hl hsp
  have hlv : vs.length = ps.length := rs.length.trans hl
  have KX : G.K.In s.heap := e0.mod.kin.keeps fun b o e => (e0.bs b o e).1
  have lim : s.heap.NoLimit := e0.mod.nolimit.keeps fun b o e => (e0.bs b o e).1
  have hkind : ∀ y ∈ ps.zip us, (defScope st).names.lookup y.1 = some .local ∨ ((defScope st).names.lookup y.1 = some .cell ∧ ((cellsFrom (s.heap.objs.size + 1) (defScope st).names []).lookup y.1).isSome = true) := by
    rintro ⟨n, v⟩ hy
    exact .inl (Sc.par n (List.of_mem_zip hy).1)
  refine codeAny_call_generator hr.depth (KX _ _ lk) rfl Sc.co Sc.gen rfl (PySem.W.codeRec_of KX hcd) (hbi _ _ _ _ ?_)
  refine wpAny_newFunctionEnv_cells Sc.kind hkind fun env he s1 z => ?_
  subst he
  have lim1 : s1.heap.NoLimit := lim.keeps z.toInCall.keep
  refine ⟨lim1, ?_⟩
  obtain ⟨h1, tk, es1, hk1⟩ := z.done
  have os1 : s1.os = s.os := by rw [es1]
  have gen1 : s1.gens = s.gens := by rw [es1]
  have lt1 : s.heap.objs.size < s1.heap.objs.size := z.toInCall.ns.lt
  have kp1 : ∀ b o, s.heap.get? b = some o → s1.heap.get? b = some o := z.toInCall.keep
  obtain ⟨lo, hlen⟩ := locs_start (G := G) Sc r hlv z
  obtain ⟨ρ', hR⟩ := hs ds outs hsp
  have main : ∀ (go : Obj) (nm qn : Value) (tk2 : Nat), go.cls = .type "generator" → go.data = .fields #[.int s1.gens.size 0, nm, qn] → go.slots = #[] → (∀ h : Heap, (h.push go).get? h.objs.size = some go) →
      Made G k outs (.ref s1.heap.objs.size) ι T H s { s1 with gens := s1.gens.push (.fresh (.func (defBody st) (envOfC qual (defScope st) s.heap.objs.size f cdv))), toks := tk2, heap := s1.heap.push go } := by
    intro go nm qn tk2 hgc hgd0 hgs hgp
    have hgen : ∀ h : Heap, h.get? s1.heap.objs.size = some go → h.IsGen s1.heap.objs.size s1.gens.size := fun h e => ⟨go, nm, qn, e, hgc, hgd0, hgs⟩
    have hpushed : (s1.heap.push go).get? s1.heap.objs.size = some go := hgp _
    obtain ⟨mL, ⟨oL, les, lep, hoL, hdL, hrL⟩, hmL⟩ := id lo
    refine ⟨s1.heap.objs.size, s1.gens.size, [(s1.heap.objs.size, go), (s.heap.objs.size, oL)], [(s1.gens.size, .fresh (.func (defBody st) (envOfC qual (defScope st) s.heap.objs.size f cdv)))], rfl, fun OL hOL => ⟨N, ps, qual, defScope st, f, s.heap.objs.size, cdv, _, [], gp0, _, L2.start N vs, oL, go,
      ⟨Sc, rfl, rfl, hgen, fun h e => DG.Locs.keep Sc lo fun o e2 => ?_, hlen, ?_, fun p hp => (by simp at hp), ?_, fun p hp v e => ?_, e0.bsz, hOL, fun p hp => (by simp at hp)⟩, start_env rs N, ⟨rfl, fun i d q => by simp at q⟩⟩, fun p hp => ?_, fun p hp => ?_, os1, ?_,
      fun b o e => Heap.get?_push_of_some _ (kp1 b o e), by rw [gen1]; exact Nat.le_refl _, hgen _ hpushed⟩
    · rw [hoL] at e2
      cases e2
      exact e
    · -- the body
      refine Cont.conv (fun a s2 RR Y h => segx_func h) ?_
      have zz := hb s.heap.objs.size cdv outs _ ρ' hR s1.gens.size [] (.func (defBody st) (envOfC qual (defScope st) s.heap.objs.size f cdv)) [] (fun fl => .pure (.done (.ret (match fl with | .ret v => v | _ => .none))))
        (fun e => (leaving (envOfC qual (defScope st) s.heap.objs.size f cdv) e).wrap (fun _ => .raise e) .raise id id) id id [] gp0 rfl ⟨fun A => over_func, rfl, rfl, rfl⟩ ?_
      · rw [List.append_nil] at zz
        exact zz
      · intro a s2 m
        exact segx_end (.ok (.ret .none)) ⟨rfl, .inl rfl, [], gp0, ρ', m⟩
    · exact Nat.ne_of_gt lt1
    · rcases List.mem_cons.mp hp with rfl | hp
      · rw [hgd0] at e
        cases e
      · rw [List.mem_singleton.mp hp] at e
        have e : oL.data = _ := e
        rw [hdL] at e
        cases e
    · rcases List.mem_cons.mp hp with rfl | hp
      · exact ⟨hpushed, Nat.le_of_lt lt1⟩
      · rw [List.mem_singleton.mp hp]
        exact ⟨Heap.get?_push_of_some _ hoL, Nat.le_refl _⟩
    · rw [List.mem_singleton.mp hp]
      exact Array.getElem?_push_size ..
    · exact AllBare.push (by rw [gen1]; exact e0.bare) rfl
  exact main _ _ _ _ rfl rfl rfl fun h => Heap.get?_push_size _ rfl
end DG
set_option Elab.async false
set_option linter.all false
set_option maxRecDepth 100000
set_option maxHeartbeats 4000000
/-! DG8: calls of generator defs; for over a generator -/
set_option Elab.async false
set_option linter.all false
set_option maxRecDepth 100000
set_option maxHeartbeats 4000000
/-! DG9: for over a generator -/
namespace DG
open DL
open PySem PySem.Spec PyProof.Rows L2 GenW
section
variable {G : Gx} {k : Nat} {X : Cx} {pins : List (Addr × Obj)} {σ : L2.St} {H : Hp} {s : Shared} {ι : Ix} {T : Sto} {outs : List D} {a : Addr} {g : Nat} {fp : List (Addr × Obj)} {gk : List (Nat × GenState)} {OL : Nat → Prop}
theorem Slp.cel (h : Slp G k OL outs a g fp gk ι T H) : ∀ p ∈ fp, ∀ v, p.2.data ≠ .cell v := by
  obtain ⟨N, ps, qual, scope, f, L, cdv, gs, ip, gp, ρ, τ, oL, go, h, _⟩ := h
  exact h.cel
theorem Slp.isg (h : Slp G k OL outs a g fp gk ι T H) (hd : Held X pins H s fp gk) : s.heap.IsGen a g := by
  obtain ⟨N, ps, qual, scope, f, L, cdv, gs, ip, gp, ρ, τ, oL, go, h, _⟩ := h
  exact h.isg _ (hd.at_ (a, go) (by rw [h.efp]; exact List.mem_cons_self ..)).1
end
end DG
set_option Elab.async false
set_option linter.all false
set_option maxRecDepth 100000
set_option maxHeartbeats 4000000
/-! DG10: for over a generator in a generator's body -/
namespace DG
open DL
open PySem PySem.Spec PyProof.Rows L2 GenW
section
variable {G : Gx} {k k' : Nat} {N ps : List Str} {qual : Str} {scope : Scope} {f : Addr} {L : Nat} {cdv : Value}
theorem Slp.weak {OL OL' : Nat → Prop} {outs : List D} {a : Addr} {g : Nat} {fp : List (Addr × Obj)} {gk : List (Nat × GenState)} {ι : Ix} {T : Sto} {H : Hp} (h : Slp G k OL outs a g fp gk ι T H) (w : ∀ L, OL L → OL' L) : Slp G k OL' outs a g fp gk ι T H := by
  obtain ⟨N, ps, qual, scope, f, L, cdv, gs, ip, gp, ρ, τ, oL, go, h, e1, e2⟩ := h
  exact ⟨N, ps, qual, scope, f, L, cdv, gs, ip, gp, ρ, τ, oL, go, ⟨h.sc, h.efp, h.egk, h.isg, h.loc, h.len, h.cont, h.ips, h.aL, h.cel, h.bs, w _ h.old, h.gps⟩, e1, e2⟩
end
end DG
set_option Elab.async false
set_option linter.all false
set_option maxRecDepth 100000
set_option maxHeartbeats 4000000
/-! DG11: a comprehension over a generator -/
namespace DG
open DL
open PySem PySem.Spec PyProof.Rows L2 GenW
theorem Slp.map {G : Gx} {k : Nat} {OL : Nat → Prop} {outs : List D} {a : Addr} {g : Nat} {fp : List (Addr × Obj)} {gk : List (Nat × GenState)} {ι ι1 : Ix} {T T1 : Sto} {H H1 : Hp} (h : Slp G k OL outs a g fp gk ι T H) (x : ∀ v d, Rep G ι (Lv ι T) H v d → Rep G ι1 (Lv ι1 T1) H1 v d) : Slp G k OL outs a g fp gk ι1 T1 H1 := by
  have mp : ∀ {τ : L2.St} {ρ : DL.Env}, REnv G ι T H τ ρ → REnv G ι1 T1 H1 τ ρ := fun {τ ρ} e => ⟨e.len, fun i d q => by
    obtain ⟨v, h1, h2⟩ := e.at_ i d q
    exact ⟨v, h1, x _ _ h2⟩⟩
  obtain ⟨N, ps, qual, scope, f, L, cdv, gs, ip, gp, ρ, τ, oL, go, h, e1, e2⟩ := h
  exact ⟨N, ps, qual, scope, f, L, cdv, gs, ip, gp, ρ, τ, oL, go, h, mp e1, mp e2⟩
end DG
set_option Elab.async false
set_option linter.all false
set_option maxRecDepth 100000
set_option maxHeartbeats 4000000
/-! DG12: list(g) -/
set_option Elab.async false
set_option linter.all false
set_option maxRecDepth 100000
set_option maxHeartbeats 4000000
/-! DG13: a generator's outputs as a function; scopes of generator defs -/
set_option Elab.async false
set_option linter.all false
set_option maxRecDepth 100000
set_option maxHeartbeats 4000000
/-! DCM: classmethods read off a class, and a class held by a name called -/
namespace DL
open PySem PySem.Spec PyProof.Rows L2
end DL
set_option Elab.async false
set_option linter.all false
set_option maxRecDepth 100000
set_option maxHeartbeats 4000000
/-! DZN: zip of any number of tuples -/
namespace DL
open PySem PySem.Spec PyProof.Rows L2
/-! ### the walk -/
def SqVs (K : PySem.W.Frag) (H : Hp) : List Addr → List (List V) → Prop
  | [], [] => True
  | a :: as, r :: vr => SqT K H a r ∧ SqVs K H as vr
  | _, _ => False
theorem SqVs.len {K : PySem.W.Frag} {H : Hp} : ∀ {as : List Addr} {vr : List (List V)}, SqVs K H as vr → as.length = vr.length
  | [], [], _ => rfl
  | a :: as, r :: vr, h => by rw [List.length_cons, List.length_cons, h.2.len]
  | [], _ :: _, h => h.elim
  | _ :: _, [], h => h.elim
/-- the i-th column -/
def Col : List (List V) → Nat → List V → Prop
  | [], _, [] => True
  | r :: vr, i, x :: col => r[i]? = some x ∧ Col vr i col
  | _, _, _ => False
theorem Col.inj {i : Nat} : ∀ {vr : List (List V)} {c d : List V}, Col vr i c → Col vr i d → c = d
  | [], [], [], _, _ => rfl
  | r :: vr, x :: c, y :: d, h, h' => by
    have e := h.1.symm.trans h'.1
    cases e
    rw [Col.inj h.2 h'.2]
  | [], _ :: _, _, h, _ => h.elim
  | [], [], _ :: _, _, h => h.elim
  | _ :: _, [], _, h, _ => h.elim
  | _ :: _, _ :: _, [], _, h => h.elim
/-! ### mirrors -/
end DL
set_option Elab.async false
set_option linter.all false
set_option maxRecDepth 100000
set_option maxHeartbeats 4000000
/-! DST: methods of texts (split, join), texts walked, a sign in a text, >= of tuples of ints -/
namespace DL
open PySem PySem.Spec PyProof.Rows L2
section
variable {I : Type} {Xs : I → Cx} {G : Gx} {E : WK} {kk : Nat}
def isS (d : D) (_ : Sto) : Bool := match d with
  | .str _ => true
  | _ => false
theorem isS_ty {ι : Ix} {S : Sto} {H : Hp} {x : V} {d : D} (R : Rel G ι S H) (r : Rep G ι (Lv ι S) H x d) (h : isS d S = true) : tyV G.K "str" x H := by
  cases d with
  | str z => rw [r.str_of]; rfl
  | _ => cases h
/-! ### split -/
def p_split (b : Bool) (x : D) (ds : List D) (S : Sto) : Res D := match x, ds with
  | .str a, [.str c] => if (c.length == 0) = false ∧ a.length ≤ 1000000 then p_lst b ((Txt.split a c).map D.str) S else .stuck
  | _, _ => .stuck
theorem reps_strs {ι : Ix} {L : Addr → Prop} {H : Hp} : ∀ ys : List Str, Reps G ι L H (ys.map V.str) (ys.map D.str)
  | [] => .nil
  | y :: ys => .cons (.str y) (reps_strs ys)
theorem snd_split (b : Bool) : SndM G (fun x xs H Q => ∃ a b, x = .str a ∧ xs = [.str b] ∧ (b.length == 0) = false ∧ a.length + 2 ≤ sizeLine ∧ rNewStrs (Txt.split a b) H Q) (p_split b) := fun E ι S H x xs dx ds Q R rx rs q => by
  unfold p_split at q
  split at q
  · rename_i a c
    split at q
    · rename_i h
      obtain ⟨v, rfl, rv⟩ := rs.one
      refine ⟨a, c, rx.str_of, by rw [rv.str_of], h.1, Nat.le_trans (Nat.add_le_add_right h.2 2) (by rw [sizeLine_eq]; decide), ?_⟩
      exact (p_lst_ok R (reps_strs _) q).2
    · exact q.elim
  · exact q.elim
/-! ### join -/
def strOf : D → Option Str
  | .str x => some x
  | _ => none
theorem Reps.strs {ι : Ix} {L : Addr → Prop} {H : Hp} : ∀ {vs : List V} {ds : List D} {ns : List Str}, Reps G ι L H vs ds → ds.mapM strOf = some ns → vs = ns.map V.str
  | _, _, ns, .nil, h => by
    simp at h
    subst h
    rfl
  | _, d :: ds, ns, .cons q r, h => by
    rw [List.mapM_cons] at h
    cases d with
    | str i =>
      cases e2 : ds.mapM strOf with
      | none => rw [e2] at h; cases h
      | some ks' =>
        rw [e2] at h
        cases h
        rw [List.map_cons, q.str_of, Reps.strs r e2]
    | _ => cases h
def p_join (x : D) (ds : List D) (S : Sto) : Res D := match x, ds with
  | .str a, [d] => match (itemsOf d S).bind (·.mapM strOf) with
    | some ys => if (ys.map (·.length)).sum + ys.length * a.length ≤ 1000000 then .ok (.str (Txt.join a ys)) S else .stuck
    | none => .stuck
  | _, _ => .stuck
theorem snd_join : SndM G (fun x xs H Q => ∃ a p, ∃ ys : List Str, x = .str a ∧ xs = [.ref p] ∧ (SqL G.K H p (ys.map V.str) ∨ SqT G.K H p (ys.map V.str)) ∧
    (ys.map (·.length)).sum + ys.length * a.length ≤ 16777216 ∧ Q (.str (Txt.join a ys)) H) p_join := fun E ι S H x xs dx ds Q R rx rs q => by
  unfold p_join at q
  split at q
  · rename_i a d
    obtain ⟨v, rfl, rv⟩ := rs.one
    cases h1 : itemsOf d S with
    | none => rw [h1] at q; exact q.elim
    | some es =>
      rw [h1] at q
      cases h2 : es.mapM strOf with
      | none => simp only [Option.bind_some, h2] at q; exact q.elim
      | some ys =>
        simp only [Option.bind_some, h2] at q
        split at q
        · rename_i h
          obtain ⟨p, vs, rfl, hs, ra⟩ := seq_at R rv h1
          rw [ra.strs h2] at hs
          refine ⟨a, p, ys, rx.str_of, rfl, ?_, Nat.le_trans h (by decide), Post.here R q _ (.str _)⟩
          cases ht : isT d with
          | true => rw [ht] at hs; exact .inr hs
          | false => rw [ht] at hs; exact .inl hs
        · exact q.elim
  · exact q.elim
theorem join_at (F : FamH Xs G E) (j : I) : MtR (Xs j) "str.join" (fun x xs H Q => ∃ a p, ∃ ys : List Str, x = .str a ∧ xs = [.ref p] ∧ (SqL G.K H p (ys.map V.str) ∨ SqT G.K H p (ys.map V.str)) ∧
    (ys.map (·.length)).sum + ys.length * a.length ≤ 16777216 ∧ Q (.str (Txt.join a ys)) H) := by
  rw [← F.K j]
  exact mt_join
/-! ### a text walked, sign by sign -/
def signD (c : Nat) : D := .str ⟨#[c]⟩
def c_itS (a : ECode) : Env → Sto → Res Wk := fun ρ S => (a ρ S).bind fun x S1 => match x with
  | .str z => .ok ⟨z.cps.toList.map signD, []⟩ S1
  | _ => .stuck
theorem walks_str {ι : Ix} {S : Sto} {H : Hp} {z : Str} : Walks G ⟨z.cps.toList.map signD, []⟩ ι S H (Its z) := fun ι2 S2 H2 x2 R2 hok => by
  refine ⟨by show z.cps.size ≤ (z.cps.toList.map signD).length; simp, fun i y hy => ?_⟩
  have hy : (z.cps.toList.map signD)[i]? = some y := hy
  rw [List.getElem?_map, Array.getElem?_toList] at hy
  cases e : z.cps[i]? with
  | none => rw [e] at hy; cases hy
  | some c =>
    rw [e] at hy
    cases hy
    have hi : i < z.cps.size := (Array.getElem?_eq_some_iff.mp e).1
    refine ⟨hi, fun x H3 hx => ?_⟩
    obtain ⟨rfl, c', hc, rfl⟩ := hx
    have e2 := hc.symm.trans e
    cases e2
    exact ⟨Ext.refl, R2, .str _, fun _ _ h => h⟩
theorem di_str {tg l : Expr} {a : ECode} (ha : DE Xs G E l a) : DI Xs G E tg l (c_itS a) := by
  obtain ⟨t, p, s⟩ := ha
  refine ⟨iStr t, fun j => pi_str (p j), fun ι S H σ ρ Q R e q => ?_⟩
  refine s.go R e q fun d S1 ι1 H1 v x1 R1 e1 r1 q1 => ?_
  cases d with
  | str z => exact ⟨z, r1.str_of, Post.here R1 q1 _ walks_str⟩
  | _ => exact q1.elim
/-! ### a sign in a text -/
def signOf (x : Str) : Option Nat := match x.cps.toList with
  | [c] => some c
  | _ => none
theorem signOf_eq {x : Str} {c : Nat} (h : signOf x = some c) : x = ⟨#[c]⟩ := by
  unfold signOf at h
  split at h
  · rename_i c' e
    cases h
    cases x with
    | mk a =>
      congr 1
      exact Array.ext' e
  · cases h
def p_inS (neg : Bool) : D → D → Sto → Res D := fun x y S => match x, y with
  | .str a, .str z => match signOf a with
    | some c => .ok (.bl (if neg = true then !decide (c ∈ z.cps.toList) else decide (c ∈ z.cps.toList))) S
    | none => .stuck
  | _, _ => .stuck
theorem snd_inS (neg : Bool) : SndR G (fun x y H Q => ∃ (c : Nat) (z : Str), x = .str ⟨#[c]⟩ ∧ y = .str z ∧ Q (.bl (if neg = true then !decide (c ∈ z.cps.toList) else decide (c ∈ z.cps.toList))) H) (p_inS neg) := fun E ι S H x y dx dy Q R rx ry q => by
  unfold p_inS at q
  split at q
  · rename_i a z
    cases h : signOf a with
    | none => rw [h] at q; exact q.elim
    | some c =>
      rw [h] at q
      refine ⟨c, z, ?_, ry.str_of, Post.here R q _ (.bl _)⟩
      rw [rx.str_of, signOf_eq h]
  · exact q.elim
theorem op_inS {X : Cx} : OpR X (compareOp .In) (fun x y H Q => ∃ (c : Nat) (z : Str), x = .str ⟨#[c]⟩ ∧ y = .str z ∧ Q (.bl (if false = true then !decide (c ∈ z.cps.toList) else decide (c ∈ z.cps.toList))) H) := op_in_sign
theorem op_notInS {X : Cx} : OpR X (compareOp .NotIn) (fun x y H Q => ∃ (c : Nat) (z : Str), x = .str ⟨#[c]⟩ ∧ y = .str z ∧ Q (.bl (if true = true then !decide (c ∈ z.cps.toList) else decide (c ∈ z.cps.toList))) H) := op_notIn_sign
/-! ### >= of tuples of ints -/
def rGeT (K : PySem.W.Frag) : R2 := fun x y H Q => ∃ (a b : Addr) (ns ms : List Int), x = .ref a ∧ y = .ref b ∧ SqT K H a (ns.map V.int) ∧ SqT K H b (ms.map V.int) ∧
  Q (.bl (Ob.lexAt (fun j => decide (ns.getD j 0 = ms.getD j 0)) (fun j => decide (ns.getD j 0 ≥ ms.getD j 0)) (decide (ns.length ≥ ms.length)) 0 (min ns.length ms.length))) H
theorem op_geT {X : Cx} (hu : X.A.units < cLine) : OpR X (compareOp .GtE) (rGeT X.K) := by
  intro pins s σ H x y v u Q I rx ry h
  obtain ⟨a, b, ns, ms, rfl, rfl, ha, hb, q⟩ := h
  cases rx
  cases ry
  obtain ⟨its, r1, p1, _⟩ := I.tuple ha
  obtain ⟨its2, r2, p2, _⟩ := I.tuple hb
  have i1 : IntsAre its ns := Vals.ints r1
  have i2 : IntsAre its2 ms := Vals.ints r2
  have e1 : its.toArray.size = ns.length := by rw [List.size_toArray]; exact i1.length
  have e2 : its2.toArray.size = ms.length := by rw [List.size_toArray]; exact i2.length
  have at1 : ∀ j (h1 : j < its.toArray.size), ∃ t, its.toArray[j] = .int (ns.getD j 0) t := fun j h1 => PyProof.Rows.IntsAre.int_at i1 _ _ (by simp at h1; simp [h1])
  have at2 : ∀ j (h1 : j < its2.toArray.size), ∃ t, its2.toArray[j] = .int (ms.getD j 0) t := fun j h1 => PyProof.Rows.IntsAre.int_at i2 _ _ (by simp at h1; simp [h1])
  have R := Ob.RcOp.tuples_ge (A := X.A) (s := s) (e := fun j => decide (ns.getD j 0 = ms.getD j 0)) (r := fun j => decide (ns.getD j 0 ≥ ms.getD j 0)) p1 p2 hu (fun j h1 h2 => by
    obtain ⟨t, et⟩ := at1 j h1
    obtain ⟨t', et'⟩ := at2 j h2
    rw [et, et']
    have z : (ns.getD j 0 == ms.getD j 0) = decide (ns.getD j 0 = ms.getD j 0) := by
      by_cases q : ns.getD j 0 = ms.getD j 0
      · rw [decide_eq_true q]; exact beq_iff_eq.mpr q
      · rw [decide_eq_false q]; exact beq_eq_false_iff_ne.mpr q
    rw [← z]
    exact SeqAt.EqAt.int_int _ _ _ _) (fun j h1 h2 _ => by
    obtain ⟨t, et⟩ := at1 j h1
    obtain ⟨t', et'⟩ := at2 j h2
    rw [et, et']
    exact Ob.RcOp.ge_int _ _ _ _)
  rw [e1, e2] at R
  have z : wpAny (model X.prog X.w) X.A (compareOp .GtE (.ref a) (.ref b)) (EP X pins σ Q) X.xe s := R X.prog X.w X.xe (EP X pins σ Q) ⟨.bl _, H, I, rfl, q⟩
  exact z
def lexGe (ns ms : List Int) : Bool := Ob.lexAt (fun j => decide (ns.getD j 0 = ms.getD j 0)) (fun j => decide (ns.getD j 0 ≥ ms.getD j 0)) (decide (ns.length ≥ ms.length)) 0 (min ns.length ms.length)
def p_geT := p_cmpT lexGe
theorem snd_geT : SndR G (rGeT G.K) p_geT := fun E ι S H x y dx dy Q R rx ry q => by
  unfold p_geT p_cmpT at q
  cases h1 : tupInts dx with
  | none => simp only [h1] at q; exact q.elim
  | some ns =>
    cases h2 : tupInts dy with
    | none => simp only [h1, h2] at q; exact q.elim
    | some ms =>
      simp only [h1, h2] at q
      obtain ⟨a, rfl, ha⟩ := tupInts_at rx h1
      obtain ⟨b, rfl, hb⟩ := tupInts_at ry h2
      exact ⟨a, b, ns, ms, rfl, rfl, ha, hb, Post.here R q _ (.bl _)⟩
theorem geT_at (F : FamH Xs G E) (j : I) : OpR (Xs j) (compareOp .GtE) (rGeT G.K) := by
  rw [← F.K j]
  exact op_geT (by have := F.u64 j; omega)
/-! ### list(text) -/
theorem signs_vals {x : Str} {acc : Array Value} (h : ItemsOf (SignAt x) acc x.cps.size) : Vals ((x.cps.toList.map fun c => (⟨#[c]⟩ : Str)).map V.str) acc.toList := by
  obtain ⟨hz, ha⟩ := h
  have go : ∀ (n : Nat) (l : List Nat) (m : List Value), (∀ (j : Nat) (v : Value), m[j]? = some v → ∃ (c : Nat) (u : Tok), l[j]? = some c ∧ v = Value.str ⟨#[c]⟩ u) → m.length = l.length → Vals ((l.map fun c => (⟨#[c]⟩ : Str)).map V.str) m := fun n l => by
    induction l with
    | nil =>
      intro m _ hl
      cases m with
      | nil => exact .nil
      | cons _ _ => cases hl
    | cons c r ih =>
      intro m hm hl
      cases m with
      | nil => cases hl
      | cons v m =>
        obtain ⟨c', u, e, rfl⟩ := hm 0 v rfl
        cases e
        exact .cons ⟨u, rfl⟩ (ih m (fun j v hj => hm (j + 1) v (by simpa using hj)) (by simpa using hl))
  refine go 0 x.cps.toList acc.toList (fun j v hj => ?_) (by simpa using hz)
  obtain ⟨c, u, e, hv⟩ := ha j v (by simpa using hj)
  exact ⟨c, u, by simpa using e, hv⟩
theorem call_listS {X : Cx} (hc : X.calm = true) : CallR X (.type "list") (fun xs H Q => ∃ x : Str, xs = [.str x] ∧ x.length ≤ 1000000 ∧ ∀ l, H l = none → Q (.ref l) (upd H l (.lst ((x.cps.toList.map fun c => (⟨#[c]⟩ : Str)).map V.str)))) := by
  intro pins s σ H xs us Q I r h
  obtain ⟨x, rfl, hz, q⟩ := h
  obtain ⟨u, rfl, t, rfl⟩ := vals1 r
  have hz' : x.cps.size ≤ sizeLine := Nat.le_trans hz (by rw [sizeLine_eq]; decide)
  refine PySem.call_list_str (I.ok.hd hc) x t (fun h' tk acc' c' kp e ha => ?_) hz'
  refine ⟨.ref s.heap.objs.size, _, I.laid (t' := tk) kp (Nat.le_refl _) (show ObjOk X.prog X.w _ h' _ (.lst ((x.cps.toList.map fun c => (⟨#[c]⟩ : Str)).map V.str)) from ⟨?_, acc'.toList, c', signs_vals ha, ?_⟩), rfl, q _ (I.hok.fresh (Nat.le_refl _))⟩
  · simpa using hz'
  · simpa using e
def p_listS (b : Bool) (ds : List D) (S : Sto) : Res D := match ds with
  | [.str x] => if x.length ≤ 1000000 then p_lst b (x.cps.toList.map signD) S else .stuck
  | ds => p_list b ds S
theorem reps_signs {ι : Ix} {L : Addr → Prop} {H : Hp} : ∀ l : List Nat, Reps G ι L H ((l.map fun c => (⟨#[c]⟩ : Str)).map V.str) (l.map signD)
  | [] => .nil
  | c :: r => .cons (.str _) (reps_signs r)
theorem snd_listS (b : Bool) : SndC G (fun xs H Q => (∃ x : Str, xs = [.str x] ∧ x.length ≤ 1000000 ∧ ∀ l, H l = none → Q (.ref l) (upd H l (.lst ((x.cps.toList.map fun c => (⟨#[c]⟩ : Str)).map V.str)))) ∨ rListU G.K xs H Q) (p_listS b) := fun E ι S H xs ds Q R r q => by
  unfold p_listS at q
  split at q
  · rename_i x
    split at q
    · rename_i h
      obtain ⟨v, rfl, rv⟩ := r.one
      exact .inl ⟨x, by rw [rv.str_of], h, (p_lst_ok R (reps_signs _) q).2⟩
    · exact q.elim
  · exact .inr (snd_list b E ι S H xs ds Q R r q)
theorem call_listSC (F : Fam Xs G E kk) (j : I) : CallR (Xs j) (.type "list") (fun xs H Q => (∃ x : Str, xs = [.str x] ∧ x.length ≤ 1000000 ∧ ∀ l, H l = none → Q (.ref l) (upd H l (.lst ((x.cps.toList.map fun c => (⟨#[c]⟩ : Str)).map V.str)))) ∨ rListU G.K xs H Q) := by
  rw [← F.K j]
  exact (call_listS (F.calm j)).or call_list_of
/-! ### text times int -/
theorem op_mulS {X : Cx} : OpR X (binaryOp .Mult) (fun x y H Q => ∃ a n, x = .str a ∧ y = .int n ∧ MulOk a n ∧ Q (.str (Txt.mul a n)) H) := by
  intro pins s σ H x y v u Q I rx ry h
  obtain ⟨a, n, rfl, rfl, hok, q⟩ := h
  obtain ⟨t, rfl⟩ := rx
  obtain ⟨t', rfl⟩ := ry
  exact PySem.SB.mul hok fun t' k => ⟨.str _, H, I.tok k, ⟨t', rfl⟩, q⟩
def p_mulS : D → D → Sto → Res D := fun x y S => match x, y with
  | .str a, .int n => if a.length ≤ 1000 ∧ 0 ≤ n ∧ n ≤ 1000 then .ok (.str (Txt.mul a n)) S else .stuck
  | _, _ => .stuck
theorem mulOk {a : Str} {n : Int} (h : a.length ≤ 1000 ∧ 0 ≤ n ∧ n ≤ 1000) : MulOk a n := by
  obtain ⟨h1, h2, h3⟩ := h
  have hb : a.length * n.toNat ≤ 1000 * 1000 := Nat.mul_le_mul h1 (by omega)
  refine ⟨?_, fun g _ z => ?_, fun _ _ => ?_⟩
  · rw [decide_eq_false (by omega), decide_eq_false (by omega)]; rfl
  · have : (1000 : Int) ≤ (2 ^ 63 - 1) / n := Int.le_ediv_of_mul_le (by omega) (by omega)
    omega
  · unfold Builtin.Str.tooLong
    rw [decide_eq_false_iff_not, sizeLine_eq]
    omega
theorem snd_mulS : SndR G (fun x y H Q => ∃ a n, x = .str a ∧ y = .int n ∧ MulOk a n ∧ Q (.str (Txt.mul a n)) H) p_mulS := fun E ι S H x y dx dy Q R rx ry q => by
  unfold p_mulS at q
  split at q
  · rename_i a n
    split at q
    · rename_i h
      exact ⟨a, n, rx.str_of, ry.int_of, mulOk h, Post.here R q _ (.str _)⟩
    · exact q.elim
  · exact q.elim
/-! ### a chain of three as a test -/
theorem pt_chain3 {X : Cx} {a b c d : Expr} {pos : Pos} {ta tb tc td : TE} {op op' op'' : CmpOp} {r r' r'' : R2} (ho : OpR X (compareOp op) r) (ho' : OpR X (compareOp op') r') (ho'' : OpR X (compareOp op'') r'') (ha : PE X a ta) (hb : PE X b tb) (hc : PE X c tc) (hd : PE X d td)
    (hm : lastMarks [op, op', op''] [b, c, d] = false) : PT X (.Compare a [op, op', op''] [b, c, d] pos) (tTest (tChain3 r r' r'' ta tb tc td)) := by
  refine ⟨fun pins s σ H Q I h => ?_⟩
  refine isTrue_chain (thn (ha.run pins s σ H _ I h) fun v s1 ⟨x, H1, I1, r1, q1⟩ => test_link (thn (hb.run pins s1 σ H1 _ I1 q1) fun u s2 ⟨y, H2, I2, r2, q2⟩ =>
    thn (ho pins s2 σ H2 x y v u _ I2 r1 r2 q2) fun dd s3 ⟨z, H3, I3, r3, k, e, q3⟩ => ?_)) hm
  subst e
  cases r3
  refine wpAny_truthy_bool ?_
  cases k with
  | false =>
    obtain ⟨k', e', q'⟩ := q3
    cases e'
    exact ite_ff ⟨H3, I3, q'⟩
  | true =>
    refine ite_tt (test_link (thn (hc.run pins s3 σ H3 _ I3 q3) fun w' s4 ⟨z', H4, I4, r4, q4⟩ => thn (ho' pins s4 σ H4 y z' u w' _ I4 r2 r4 q4) fun d2 s5 ⟨z2, H5, I5, r5, k2, e2, q5⟩ => ?_))
    subst e2
    cases r5
    refine wpAny_truthy_bool ?_
    cases k2 with
    | false =>
      obtain ⟨k', e', q'⟩ := q5
      cases e'
      exact ite_ff ⟨H5, I5, q'⟩
    | true =>
      refine ite_tt (test_last (thn (hd.run pins s5 σ H5 _ I5 q5) fun w2 s6 ⟨z3, H6, I6, r6, q6⟩ => thn (ho'' pins s6 σ H6 z' z3 w' w2 _ I6 r4 r6 q6) fun d' s7 ⟨z4, H7, I7, r7, k3, e3, q7⟩ => ?_))
      subst e3
      cases r7
      exact wpAny_truthy_bool ⟨H7, I7, q7⟩
theorem dt_chain3 {op op' op'' : CmpOp} {r r' r'' : R2} {p p' p'' : D → D → Sto → Res D} {x y z u : Expr} {pos : Pos} {a b c d : ECode} (ho : ∀ j, OpR (Xs j) (compareOp op) r) (hr : SndR G r p) (ho' : ∀ j, OpR (Xs j) (compareOp op') r') (hr' : SndR G r' p') (ho'' : ∀ j, OpR (Xs j) (compareOp op'') r'') (hr'' : SndR G r'' p'')
    (ha : DE Xs G E x a) (hb : DE Xs G E y b) (hc : DE Xs G E z c) (hd : DE Xs G E u d) (hm : lastMarks [op, op', op''] [y, z, u] = false) : DT Xs G E (.Compare x [op, op', op''] [y, z, u] pos) (c_test (c_chain3 p p' p'' a b c d)) := by
  obtain ⟨ta, pa, sa⟩ := ha
  obtain ⟨tb, pb, sb⟩ := hb
  obtain ⟨tc, pc, sc⟩ := hc
  obtain ⟨td, pd, sd⟩ := hd
  exact ⟨_, fun j => pt_chain3 (ho j) (ho' j) (ho'' j) (pa j) (pb j) (pc j) (pd j) hm, snd_test (snd_chain3 hr hr' hr'' sa sb sc sd)⟩
/-! ### try .. except X: without a name -/
end
end DL
set_option Elab.async false
set_option linter.all false
set_option maxRecDepth 100000
set_option maxHeartbeats 4000000
/-! printed by gen.py -/
namespace K52
open PySem PySem.Spec PyProof.Rows L2 DL
def top (i : Nat) : Stmt := PySem.Challenge.pw_crossnought_k52_texts_of_tables.main.body.getD i (.Pass ⟨0, 0, 0, 0⟩)
abbrev s__law_source : Stmt := top 28
abbrev s__law_random : Stmt := top 29
abbrev s__law_choice : Stmt := top 30
abbrev s__law_sizes : Stmt := top 31
abbrev s__law_wording : Stmt := top 39
abbrev s_is_between : Stmt := top 16
abbrev s_reduced_modulo : Stmt := top 10
abbrev s_power_of : Stmt := top 11
abbrev s_is_probable : Stmt := top 12
abbrev s_is_odd_prime : Stmt := top 13
abbrev s_Scheme_is_prime : Stmt := inClass (top 17) 4
abbrev s_Scheme__init_ : Stmt := inClass (top 17) 3
abbrev s__law_any_table : Stmt := top 38
abbrev s__law_odd_line : Stmt := top 44
abbrev s__law_bent : Stmt := top 45
abbrev s_integer_in : Stmt := top 22
abbrev s_integers_in : Stmt := top 23
abbrev s_is_integer : Stmt := top 6
abbrev s_Scheme_largest_amount : Stmt := inClass (top 17) 9
abbrev s_is_reduced : Stmt := top 7
abbrev s_Scheme_accounts : Stmt := inClass (top 17) 7
abbrev s_entry_in : Stmt := top 25
abbrev s_read_table_text : Stmt := top 26
abbrev s__law_heard : Stmt := top 43
abbrev s__law_integer : Stmt := top 40
abbrev s__law_entry : Stmt := top 41
abbrev s__law_decided : Stmt := top 42
abbrev s__law_right : Stmt := top 46
abbrev s_table_text : Stmt := top 24
abbrev s_law : Stmt := top 47
abbrev s_BadText__init_ : Stmt := inClass (top 4) 0
def tabm_BadText : Nat → Option Bool := fun n => ([some true] : List (Option Bool)).getD n none
def tab_CrossError : Nat → Option Bool := fun n => ([some true] : List (Option Bool)).getD n none
def tab_ValueError : Nat → Option Bool := fun n => ([some true] : List (Option Bool)).getD n none
def k_BASES : D := (.wtp [.int 2, .int 3, .int 5, .int 7])
def k_DIGITS : D := (.str "0123456789")
def k_ENTRY_NUMBERS : D := (.int 3)
def k_LEAST_ACCOUNTS : D := (.int 2)
def k_MOST_DIGITS : D := (.int 10)
/-! _law_source: 0 _law_script, 1 _law_cells, 2 _law_mixed, 3 _law_cell -/
noncomputable def c__law_source (G : Gx) : SCode :=
  (c_seq (c_par 1 2 (c_cb (p_list false) (c_cons (c_sl false (c_var 0) c_no (c_part (c_d (.int 63)))) c_nil)) (c_d (.int 52529)))
  (c_seq (c_for (c_it (c_var 1)) (g_name 3) (c_set 2 (c_op p_mod (c_op (p_add false) (c_op (p_add false) (c_op (p_mul false) (c_var 2) (c_d (.int 48271))) (c_op p_mod (c_var 3) (c_d (.int 2147483629)))) (c_d (.int 37))) (c_d (.int 2147483587)))))
  (c_ret (c_lst true (c_cons (c_rev true (c_var 1)) (c_cons (c_var 2) (c_cons (c_d (.int 0)) c_nil)))))))
noncomputable def m__law_source (G : Gx) : List D → Sto → Res D := fnR 4 (c__law_source G)
noncomputable def mp__law_source (G : Gx) : List D → Sto → Res D := argsN 1 (m__law_source G)
/-! _law_random: 0 _law_source_here, 1 _law_count, 2 _law_cell, 3 _law_mixed -/
noncomputable def c__law_random (G : Gx) : SCode :=
  (c_seq (c_setI (c_var 0) (c_d (.int 2)) (c_op (p_add false) (c_op p_ix (c_var 0) (c_d (.int 2))) (c_d (.int 1))))
  (c_seq (c_set 2 (c_op p_ix (c_var 0) (c_d (.int 1))))
  (c_seq (c_ifS (c_test (c_op (p_eq true) (c_op p_ix (c_var 0) (c_d (.int 0))) (c_lst false c_nil))) (c_seq (c_set 2 (c_meth isL p_pop (c_op p_ix (c_var 0) (c_d (.int 0))) c_nil))
  (c_seq (c_ifS (c_test (c_op p_ge (c_var 2) (c_op p_pow (c_d (.int 10)) (c_d (.int 18))))) (c_seq (c_expr (c_meth isL p_append (c_op p_ix (c_var 0) (c_d (.int 0))) (c_cons (c_op p_fdiv (c_var 2) (c_var 1)) c_nil)))
  (c_ret (c_op p_mod (c_var 2) (c_var 1)))) c_nx)
  (c_set 2 (c_op (p_add false) (c_var 2) (c_op p_ix (c_var 0) (c_d (.int 1))))))) c_nx)
  (c_seq (c_set 3 (c_op p_mod (c_op (p_mul false) (c_op (p_add false) (c_op (p_add false) (c_op p_mod (c_var 2) (c_d (.int 2147483629))) (c_op (p_mul false) (c_op (p_mul false) (c_d (.int 65537)) (c_op p_ix (c_var 0) (c_d (.int 2)))) (c_op p_ix (c_var 0) (c_d (.int 2))))) (c_d (.int 41))) (c_d (.int 40692))) (c_d (.int 2147483647))))
  (c_seq (c_set 3 (c_op p_mod (c_op (p_add false) (c_op (p_add false) (c_op (p_mul false) (c_var 3) (c_var 3)) (c_op (p_mul false) (c_d (.int 69621)) (c_op p_ix (c_var 0) (c_d (.int 2))))) (c_d (.int 7))) (c_d (.int 2147483587))))
  (c_ret (c_op p_mod (c_op p_fdiv (c_op p_mod (c_op (p_mul false) (c_var 3) (c_d (.int 48271))) (c_d (.int 2147483563))) (c_d (.int 64))) (c_var 1))))))))
noncomputable def m__law_random (G : Gx) : List D → Sto → Res D := fnR 4 (c__law_random G)
noncomputable def mp__law_random (G : Gx) : List D → Sto → Res D := argsN 2 (m__law_random G)
/-! _law_choice: 0 _law_source_here, 1 _law_items -/
noncomputable def c__law_choice (G : Gx) : SCode :=
  (c_ret (c_op p_ix (c_var 1) (c_cb (mp__law_random G) (c_cons (c_var 0) (c_cons (c_cb p_len (c_cons (c_var 1) c_nil)) c_nil)))))
noncomputable def m__law_choice (G : Gx) : List D → Sto → Res D := fnR 2 (c__law_choice G)
noncomputable def mp__law_choice (G : Gx) : List D → Sto → Res D := argsN 2 (m__law_choice G)
/-! _law_sizes: 0 _law_source_here, 1 _law_count, 2 _law_least, 3 _law_modulus -/
noncomputable def c__law_sizes (G : Gx) : SCode :=
  (c_seq (c_set 1 (c_cb (mp__law_choice G) (c_cons (c_var 0) (c_cons (c_lst false (c_cons (c_d (.int 2)) (c_cons (c_d (.int 2)) (c_cons (c_d (.int 3)) (c_cons (c_d (.int 4)) (c_cons (c_d (.int 4)) (c_cons (c_d (.int 5)) (c_cons (c_d (.int 6)) (c_cons (c_d (.int 7)) (c_cons (c_d (.int 24)) c_nil)))))))))) c_nil))))
  (c_seq (c_set 2 (c_op p_ix (c_dispK false (c_ps (c_d (.int 2)) (c_d (.int 5)) (c_ps (c_d (.int 3)) (c_d (.int 11)) (c_ps (c_d (.int 4)) (c_d (.int 17)) (c_ps (c_d (.int 5)) (c_d (.int 29)) (c_ps (c_d (.int 6)) (c_d (.int 37)) (c_ps (c_d (.int 7)) (c_d (.int 53)) (c_ps (c_d (.int 24)) (c_d (.int 577)) c_ps0)))))))) (c_var 1)))
  (c_seq (c_set 3 (c_cb (mp__law_choice G) (c_cons (c_var 0) (c_cons (c_lst false (c_cons (c_var 2) (c_cons (c_var 2) (c_cons (c_d (.int 1009)) (c_cons (c_d (.int 65537)) (c_cons (c_d (.int 999999937)) c_nil)))))) c_nil))))
  (c_ret (c_tup (c_cons (c_var 3) (c_cons (c_var 1) (c_cons (c_cb (mp__law_choice G) (c_cons (c_var 0) (c_cons (c_lst false (c_cons (c_d (.int 1)) (c_cons (c_d (.int 2)) (c_cons (c_d (.int 3)) (c_cons (c_d (.int 4)) (c_cons (c_d (.int 6)) (c_cons (c_d (.int 24)) c_nil))))))) c_nil))) c_nil))))))))
noncomputable def m__law_sizes (G : Gx) : List D → Sto → Res D := fnR 4 (c__law_sizes G)
noncomputable def mp__law_sizes (G : Gx) : List D → Sto → Res D := argsN 1 (m__law_sizes G)
/-! _law_wording: 0 _law_entries, 1 _law_lines, 2 _law_first, 3 _law_second, 4 _law_number_here -/
noncomputable def c__law_wording (G : Gx) : SCode :=
  (c_seq (c_set 1 (c_lst true c_nil))
  (c_seq (c_for (c_it (c_var 0)) (g_tup 2 (g_cons (g_tup 2 (g_cons (g_name 2) (g_cons (g_name 3) g_nil))) (g_cons (g_name 4) g_nil))) (c_expr (c_meth isL p_append (c_var 1) (c_cons (c_op (p_add false) (c_op (p_add false) (c_op (p_add false) (c_op (p_add false) (c_cb p_str (c_cons (c_var 2) c_nil)) (c_d (.str " "))) (c_cb p_str (c_cons (c_var 3) c_nil))) (c_d (.str " "))) (c_cb p_str (c_cons (c_var 4) c_nil))) c_nil))))
  (c_ret (c_meth isS p_join (c_d (.str "\n")) (c_cons (c_var 1) c_nil)))))
noncomputable def m__law_wording (G : Gx) : List D → Sto → Res D := fnR 5 (c__law_wording G)
noncomputable def mp__law_wording (G : Gx) : List D → Sto → Res D := argsN 1 (m__law_wording G)
/-! is_between: 0 value, 1 least, 2 most -/
noncomputable def c_is_between (G : Gx) : SCode :=
  (c_ret (c_andV (c_cb p_isi (c_cons (c_var 0) (c_cons (c_d (.ty "int")) c_nil))) (c_andV (c_notV (c_cb p_isi (c_cons (c_var 0) (c_cons (c_d (.ty "bool")) c_nil)))) (c_chain p_le p_le (c_var 1) (c_var 0) (c_var 2)))))
noncomputable def m_is_between (G : Gx) : List D → Sto → Res D := fnR 3 (c_is_between G)
noncomputable def mp_is_between (G : Gx) : List D → Sto → Res D := argsN 3 (m_is_between G)
/-! reduced_modulo: 0 number, 1 prime, 2 rest -/
noncomputable def c_reduced_modulo (G : Gx) : SCode :=
  (c_seq (c_set 2 (c_op p_mod (c_var 0) (c_var 1)))
  (c_ret (c_if (c_test (c_op p_gt (c_op (p_mul false) (c_d (.int 2)) (c_var 2)) (c_var 1))) (c_op p_sub (c_var 2) (c_var 1)) (c_var 2))))
noncomputable def m_reduced_modulo (G : Gx) : List D → Sto → Res D := fnR 3 (c_reduced_modulo G)
noncomputable def mp_reduced_modulo (G : Gx) : List D → Sto → Res D := argsN 2 (m_reduced_modulo G)
/-! power_of: 0 base, 1 exponent, 2 prime, 3 result, 4 square, 5 left -/
noncomputable def c_power_of (G : Gx) : SCode :=
  (c_seq (c_par3 3 4 5 (c_d (.int 1)) (c_op p_mod (c_var 0) (c_var 2)) (c_var 1))
  (c_seq (c_while (c_test (c_op p_gt (c_var 5) (c_d (.int 0)))) (c_seq (c_ifS (c_test (c_op (p_eq false) (c_op p_mod (c_var 5) (c_d (.int 2))) (c_d (.int 1)))) (c_set 3 (c_op p_mod (c_op (p_mul false) (c_var 3) (c_var 4)) (c_var 2))) c_nx)
  (c_seq (c_set 4 (c_op p_mod (c_op (p_mul false) (c_var 4) (c_var 4)) (c_var 2)))
  (c_aug 5 p_fdiv (c_d (.int 2))))))
  (c_ret (c_cb (mp_reduced_modulo G) (c_cons (c_var 3) (c_cons (c_var 2) c_nil))))))
noncomputable def m_power_of (G : Gx) : List D → Sto → Res D := fnR 6 (c_power_of G)
noncomputable def mp_power_of (G : Gx) : List D → Sto → Res D := argsN 3 (m_power_of G)
/-! is_probable: 0 number, 1 base, 2 odd, 3 twos, 4 power, 5 turn -/
noncomputable def c_is_probable (G : Gx) : SCode :=
  (c_seq (c_par 2 3 (c_op p_sub (c_var 0) (c_d (.int 1))) (c_d (.int 0)))
  (c_seq (c_while (c_test (c_op (p_eq false) (c_op p_mod (c_var 2) (c_d (.int 2))) (c_d (.int 0)))) (c_par 2 3 (c_op p_fdiv (c_var 2) (c_d (.int 2))) (c_op (p_add false) (c_var 3) (c_d (.int 1)))))
  (c_seq (c_set 4 (c_cb (mp_power_of G) (c_cons (c_var 1) (c_cons (c_var 2) (c_cons (c_var 0) c_nil)))))
  (c_seq (c_ifS (c_test (c_op (p_in false) (c_var 4) (c_tup (c_cons (c_d (.int 1)) (c_cons (c_un p_neg (c_d (.int 1))) c_nil))))) (c_ret (c_d (.bl true))) c_nx)
  (c_seq (c_for (c_rng1 (c_cons (c_op p_sub (c_var 3) (c_d (.int 1))) c_nil)) (g_name 5) (c_seq (c_set 4 (c_cb (mp_reduced_modulo G) (c_cons (c_op (p_mul false) (c_var 4) (c_var 4)) (c_cons (c_var 0) c_nil))))
  (c_ifS (c_test (c_op (p_eq false) (c_var 4) (c_un p_neg (c_d (.int 1))))) (c_ret (c_d (.bl true))) c_nx)))
  (c_ret (c_d (.bl false))))))))
noncomputable def m_is_probable (G : Gx) : List D → Sto → Res D := fnR 6 (c_is_probable G)
noncomputable def mp_is_probable (G : Gx) : List D → Sto → Res D := argsN 2 (m_is_probable G)
/-! is_odd_prime: 0 number, 1 base -/
noncomputable def c_is_odd_prime (G : Gx) : SCode :=
  (c_seq (c_for (c_it (c_d k_BASES)) (g_name 1) (c_ifS (c_test (c_op (p_eq false) (c_op p_mod (c_var 0) (c_var 1)) (c_d (.int 0)))) (c_ret (c_op (p_eq false) (c_var 0) (c_var 1))) c_nx))
  (c_ret (c_cb p_all (c_cons (c_lc (c_it (c_d k_BASES)) (g_name 1) c_yes (c_cb (mp_is_probable G) (c_cons (c_var 0) (c_cons (c_var 1) c_nil))) [1]) c_nil))))
noncomputable def m_is_odd_prime (G : Gx) : List D → Sto → Res D := fnR 2 (c_is_odd_prime G)
noncomputable def mp_is_odd_prime (G : Gx) : List D → Sto → Res D := argsN 1 (m_is_odd_prime G)
/-! Scheme.is_prime: 0 value -/
noncomputable def c_Scheme_is_prime (G : Gx) : SCode :=
  (c_ret (c_andV (c_cb (mp_is_between G) (c_cons (c_var 0) (c_cons (c_d (.int 3)) (c_cons (c_cval (G.cls 0) (.int 1000000000) (c_d (.con (G.cls 0)))) c_nil)))) (c_cb (mp_is_odd_prime G) (c_cons (c_var 0) c_nil))))
noncomputable def m_Scheme_is_prime (G : Gx) : List D → Sto → Res D := fnR 1 (c_Scheme_is_prime G)
noncomputable def mp_Scheme_is_prime (G : Gx) : List D → Sto → Res D := argsN 1 (m_Scheme_is_prime G)
/-! Scheme.__init__: 0 self, 1 prime, 2 accounts, 3 length -/
noncomputable def c_Scheme__init_ (G : Gx) : SCode :=
  (c_seq (c_ifS (c_not (c_test (c_smeth (G.cls 0) (mp_Scheme_is_prime G) (c_d (.con (G.cls 0))) (c_cons (c_var 1) c_nil)))) c_stuck c_nx)
  (c_seq (c_ifS (c_or (c_not (c_test (c_cb (mp_is_between G) (c_cons (c_var 2) (c_cons (c_d k_LEAST_ACCOUNTS) (c_cons (c_cval (G.cls 0) (.int 24) (c_d (.con (G.cls 0)))) c_nil)))))) (c_test (c_op p_ge (c_op (p_mul false) (c_var 2) (c_var 2)) (c_var 1)))) c_stuck c_nx)
  (c_seq (c_ifS (c_not (c_test (c_cb (mp_is_between G) (c_cons (c_var 3) (c_cons (c_d (.int 1)) (c_cons (c_cval (G.cls 0) (.int 24) (c_d (.con (G.cls 0)))) c_nil)))))) c_stuck c_nx)
  (c_seq (c_fldS 0 0 (c_var 0) (c_var 1))
  (c_seq (c_fldS 0 1 (c_var 0) (c_var 2))
  (c_fldS 0 2 (c_var 0) (c_var 3)))))))
noncomputable def m_Scheme__init_ (G : Gx) : List D → Sto → Res D := fnR 4 (c_Scheme__init_ G)
noncomputable def mp_Scheme__init_ (G : Gx) : List D → Sto → Res D := argsN 4 (m_Scheme__init_ G)
/-! _law_any_table: 0 _law_source_here, 1 _law_sizes_here, 2 _law_chance, 3 _law_half, 4 _law_found, 5 _law_first, 6 _law_second, 7 _law_some -/
noncomputable def c__law_any_table (G : Gx) : SCode :=
  (c_seq (c_par3 2 3 4 (c_op (p_add false) (c_d (.int 1)) (c_cb (mp__law_random G) (c_cons (c_var 0) (c_cons (c_d (.int 4)) c_nil)))) (c_op p_fdiv (c_op p_ix (c_var 1) (c_d (.int 0))) (c_d (.int 2))) (c_lst true c_nil))
  (c_seq (c_for (c_rng1 (c_cons (c_op p_ix (c_var 1) (c_d (.int 1))) c_nil)) (g_name 5) (c_for (c_rng2 (c_cons (c_op (p_add false) (c_var 5) (c_d (.int 1))) (c_cons (c_op p_ix (c_var 1) (c_d (.int 1))) c_nil))) (g_name 6) (c_seq (c_set 7 (c_lst false (c_cons (c_d (.int 1)) (c_cons (c_un p_neg (c_d (.int 1))) (c_cons (c_var 3) (c_cons (c_op p_sub (c_d (.int 0)) (c_var 3)) (c_cons (c_op (p_add false) (c_d (.int 1)) (c_cb (mp__law_random G) (c_cons (c_var 0) (c_cons (c_var 3) c_nil)))) (c_cons (c_op p_sub (c_un p_neg (c_d (.int 1))) (c_cb (mp__law_random G) (c_cons (c_var 0) (c_cons (c_var 3) c_nil)))) c_nil))))))))
  (c_ifS (c_and (c_test (c_op p_lt (c_cb (mp__law_random G) (c_cons (c_var 0) (c_cons (c_d (.int 4)) c_nil))) (c_var 2))) (c_test (c_op p_lt (c_cb p_len (c_cons (c_var 4) c_nil)) (c_d (.int 60))))) (c_expr (c_meth isL p_append (c_var 4) (c_cons (c_tup (c_cons (c_tup (c_cons (c_var 5) (c_cons (c_var 6) c_nil))) (c_cons (c_cb (mp__law_choice G) (c_cons (c_var 0) (c_cons (c_var 7) c_nil))) c_nil))) c_nil))) c_nx))))
  (c_ret (c_cb p_tuple (c_cons (c_if (c_test (c_op p_gt (c_cb (mp__law_random G) (c_cons (c_var 0) (c_cons (c_d (.int 8)) c_nil))) (c_d (.int 0)))) (c_var 4) (c_lst false c_nil)) c_nil)))))
noncomputable def m__law_any_table (G : Gx) : List D → Sto → Res D := fnR 8 (c__law_any_table G)
noncomputable def mp__law_any_table (G : Gx) : List D → Sto → Res D := argsN 2 (m__law_any_table G)
/-! _law_odd_line: 0 _law_source_here, 1 _law_sizes_here, 2 _law_half, 3 _law_last, 4 _law_words, 5 _law_number_here, 6 _law_k -/
noncomputable def c__law_odd_line (G : Gx) : SCode :=
  (c_seq (c_par 2 3 (c_op p_fdiv (c_op p_ix (c_var 1) (c_d (.int 0))) (c_d (.int 2))) (c_op p_sub (c_op p_ix (c_var 1) (c_d (.int 1))) (c_d (.int 1))))
  (c_seq (c_set 4 (c_lc (c_it (c_tup (c_cons (c_d (.int 0)) (c_cons (c_op p_sub (c_var 3) (c_d (.int 1))) (c_cons (c_var 3) (c_cons (c_op (p_add false) (c_var 3) (c_d (.int 1))) (c_cons (c_un p_neg (c_d (.int 1))) (c_cons (c_var 2) (c_cons (c_op (p_add false) (c_var 2) (c_d (.int 1))) (c_cons (c_op p_sub (c_d (.int 0)) (c_var 2)) (c_cons (c_op p_sub (c_op p_sub (c_d (.int 0)) (c_var 2)) (c_d (.int 1))) (c_cons (c_d (.int 1)) c_nil)))))))))))) (g_name 5) c_yes (c_cb p_str (c_cons (c_var 5) c_nil)) [5]))
  (c_seq (c_set 4 (c_op (p_add false) (c_var 4) (c_lst false (c_cons (c_d (.str "-0")) (c_cons (c_d (.str "00")) (c_cons (c_d (.str "01")) (c_cons (c_d (.str "+1")) (c_cons (c_d (.str "")) (c_cons (c_d (.str "1.0")) (c_cons (c_d (.str "x")) (c_cons (c_d (.str "1_0")) (c_cons (c_op p_mulS (c_d (.str "9")) (c_d (.int 25))) c_nil))))))))))))
  (c_ret (c_meth isS p_join (c_d (.str " ")) (c_cons (c_lc (c_rng1 (c_cons (c_cb (mp__law_choice G) (c_cons (c_var 0) (c_cons (c_lst false (c_cons (c_d (.int 3)) (c_cons (c_d (.int 3)) (c_cons (c_d (.int 3)) (c_cons (c_d (.int 3)) (c_cons (c_d (.int 2)) (c_cons (c_d (.int 4)) c_nil))))))) c_nil))) c_nil)) (g_name 6) c_yes (c_cb (mp__law_choice G) (c_cons (c_var 0) (c_cons (c_var 4) c_nil))) [6]) c_nil))))))
noncomputable def m__law_odd_line (G : Gx) : List D → Sto → Res D := fnR 7 (c__law_odd_line G)
noncomputable def mp__law_odd_line (G : Gx) : List D → Sto → Res D := argsN 2 (m__law_odd_line G)
/-! _law_bent: 0 _law_source_here, 1 _law_sizes_here, 2 _law_wording_here, 3 _law_lines, 4 _law_at, 5 _law_other, 6 _law_odd, 7 _law_way, 8 _law_some, 9 _law_sign -/
noncomputable def c__law_bent (G : Gx) : SCode :=
  (c_seq (c_set 3 (c_meth isS (p_split false) (c_var 2) (c_cons (c_d (.str "\n")) c_nil)))
  (c_seq (c_par 4 5 (c_cb (mp__law_random G) (c_cons (c_var 0) (c_cons (c_cb p_len (c_cons (c_var 3) c_nil)) c_nil))) (c_cb (mp__law_random G) (c_cons (c_var 0) (c_cons (c_cb p_len (c_cons (c_var 3) c_nil)) c_nil))))
  (c_seq (c_par 6 7 (c_cb (mp__law_odd_line G) (c_cons (c_var 0) (c_cons (c_var 1) c_nil))) (c_cb (mp__law_random G) (c_cons (c_var 0) (c_cons (c_d (.int 9)) c_nil))))
  (c_seq (c_set 8 (c_lst true (c_cons (c_op (p_add false) (c_sl false (c_var 3) c_no (c_part (c_var 4))) (c_sl false (c_var 3) (c_part (c_op (p_add false) (c_var 4) (c_d (.int 1)))) c_no)) (c_cons (c_op (p_add false) (c_op (p_add false) (c_sl false (c_var 3) c_no (c_part (c_var 4))) (c_sl false (c_var 3) (c_part (c_var 4)) (c_part (c_op (p_add false) (c_var 4) (c_d (.int 1)))))) (c_sl false (c_var 3) (c_part (c_var 4)) c_no)) (c_cons (c_op (p_add false) (c_var 3) (c_lst false (c_cons (c_var 6) c_nil))) (c_cons (c_op (p_add false) (c_var 3) (c_lst false (c_cons (c_d (.str "")) c_nil))) c_nil))))))
  (c_seq (c_set 8 (c_op (p_add true) (c_var 8) (c_lst false (c_cons (c_op (p_add false) (c_op (p_add false) (c_sl false (c_var 3) c_no (c_part (c_var 4))) (c_lst false (c_cons (c_var 6) c_nil))) (c_sl false (c_var 3) (c_part (c_op (p_add false) (c_var 4) (c_d (.int 1)))) c_no)) (c_cons (c_op (p_add false) (c_op (p_add false) (c_sl false (c_var 3) c_no (c_part (c_var 4))) (c_lst false (c_cons (c_var 6) c_nil))) (c_sl false (c_var 3) (c_part (c_var 4)) c_no)) c_nil)))))
  (c_seq (c_expr (c_meth isL p_append (c_var 8) (c_cons (c_op (p_add false) (c_op (p_add false) (c_sl false (c_var 3) c_no (c_part (c_var 4))) (c_lst false (c_cons (c_op p_ix (c_var 3) (c_var 5)) c_nil))) (c_sl false (c_var 3) (c_part (c_op (p_add false) (c_var 4) (c_d (.int 1)))) c_no)) c_nil)))
  (c_seq (c_ifS (c_test (c_op p_lt (c_var 7) (c_d (.int 7)))) (c_ret (c_meth isS p_join (c_d (.str "\n")) (c_cons (c_op p_ix (c_var 8) (c_var 7)) c_nil))) c_nx)
  (c_seq (c_par 4 9 (c_cb (mp__law_random G) (c_cons (c_var 0) (c_cons (c_op (p_add false) (c_cb p_len (c_cons (c_var 2) c_nil)) (c_d (.int 1))) c_nil))) (c_cb (mp__law_choice G) (c_cons (c_var 0) (c_cons (c_cb (p_listS false) (c_cons (c_d (.str "0123456789- \n+x")) c_nil)) c_nil))))
  (c_ret (c_op (p_add false) (c_op (p_add false) (c_sl false (c_var 2) c_no (c_part (c_var 4))) (c_op p_ix (c_lst false (c_cons (c_var 9) (c_cons (c_d (.str "")) c_nil))) (c_op p_sub (c_var 7) (c_d (.int 7))))) (c_sl false (c_var 2) (c_part (c_op (p_add false) (c_var 4) (c_cb (mp__law_random G) (c_cons (c_var 0) (c_cons (c_d (.int 2)) c_nil))))) c_no)))))))))))
noncomputable def m__law_bent (G : Gx) : List D → Sto → Res D := fnR 10 (c__law_bent G)
noncomputable def mp__law_bent (G : Gx) : List D → Sto → Res D := argsN 3 (m__law_bent G)
/-! integer_in: 0 word, 1 digits, 2 digit -/
noncomputable def c_integer_in (G : Gx) : SCode :=
  (c_seq (c_set 1 (c_if (c_test (c_op (p_eqS false) (c_sl false (c_var 0) c_no (c_part (c_d (.int 1)))) (c_d (.str "-")))) (c_sl false (c_var 0) (c_part (c_d (.int 1))) c_no) (c_var 0)))
  (c_seq (c_ifS (c_or (c_not (c_test (c_chain p_le p_le (c_d (.int 1)) (c_cb p_len (c_cons (c_var 1) c_nil)) (c_d k_MOST_DIGITS)))) (c_not (c_test (c_cb p_all (c_cons (c_lc (c_itS (c_var 1)) (g_name 2) c_yes (c_op (p_inS false) (c_var 2) (c_d k_DIGITS)) [2]) c_nil))))) (c_ret (c_d .non)) c_nx)
  (c_ret (c_if (c_or (c_test (c_op (p_eqS true) (c_op p_ix (c_var 1) (c_d (.int 0))) (c_d (.str "0")))) (c_test (c_op (p_eqS false) (c_var 0) (c_d (.str "0"))))) (c_cb p_int (c_cons (c_var 0) c_nil)) (c_d .non)))))
noncomputable def m_integer_in (G : Gx) : List D → Sto → Res D := fnR 3 (c_integer_in G)
noncomputable def mp_integer_in (G : Gx) : List D → Sto → Res D := argsN 1 (m_integer_in G)
/-! integers_in: 0 words, 1 word -/
noncomputable def c_integers_in (G : Gx) : SCode :=
  (c_ret (c_cb p_tuple (c_cons (c_lc (c_it (c_var 0)) (g_name 1) c_yes (c_cb (mp_integer_in G) (c_cons (c_var 1) c_nil)) [1]) c_nil)))
noncomputable def m_integers_in (G : Gx) : List D → Sto → Res D := fnR 2 (c_integers_in G)
noncomputable def mp_integers_in (G : Gx) : List D → Sto → Res D := argsN 1 (m_integers_in G)
/-! is_integer: 0 value -/
noncomputable def c_is_integer (G : Gx) : SCode :=
  (c_ret (c_andV (c_cb p_isi (c_cons (c_var 0) (c_cons (c_d (.ty "int")) c_nil))) (c_notV (c_cb p_isi (c_cons (c_var 0) (c_cons (c_d (.ty "bool")) c_nil))))))
noncomputable def m_is_integer (G : Gx) : List D → Sto → Res D := fnR 1 (c_is_integer G)
noncomputable def mp_is_integer (G : Gx) : List D → Sto → Res D := argsN 1 (m_is_integer G)
/-! Scheme.largest_amount: 0 self -/
noncomputable def c_Scheme_largest_amount (G : Gx) : SCode :=
  (c_ret (c_op p_fdiv (c_op p_sub (c_fld 0 0 (c_var 0)) (c_d (.int 1))) (c_d (.int 2))))
noncomputable def m_Scheme_largest_amount (G : Gx) : List D → Sto → Res D := fnR 1 (c_Scheme_largest_amount G)
/-! is_reduced: 0 scheme, 1 value -/
noncomputable def c_is_reduced (G : Gx) : SCode :=
  (c_ret (c_andV (c_cb (mp_is_integer G) (c_cons (c_var 1) c_nil)) (c_op p_le (c_cb p_abs (c_cons (c_var 1) c_nil)) (c_prop 0 (m_Scheme_largest_amount G) (c_var 0)))))
noncomputable def m_is_reduced (G : Gx) : List D → Sto → Res D := fnR 2 (c_is_reduced G)
noncomputable def mp_is_reduced (G : Gx) : List D → Sto → Res D := argsN 2 (m_is_reduced G)
/-! Scheme.accounts: 0 self -/
noncomputable def c_Scheme_accounts (G : Gx) : SCode :=
  (c_ret (c_fld 0 1 (c_var 0)))
noncomputable def m_Scheme_accounts (G : Gx) : List D → Sto → Res D := fnR 1 (c_Scheme_accounts G)
/-! entry_in: 0 scheme, 1 line, 2 numbers, 3 first, 4 second, 5 amount -/
noncomputable def c_entry_in (G : Gx) : SCode :=
  (c_seq (c_set 2 (c_cb (mp_integers_in G) (c_cons (c_meth isS (p_split false) (c_var 1) (c_cons (c_d (.str " ")) c_nil)) c_nil)))
  (c_seq (c_ifS (c_or (c_test (c_op (p_eq true) (c_cb p_len (c_cons (c_var 2) c_nil)) (c_d k_ENTRY_NUMBERS))) (c_test (c_op (p_in false) (c_d .non) (c_var 2)))) (c_ret (c_d .non)) c_nx)
  (c_seq (c_asg (g_tup 3 (g_cons (g_name 3) (g_cons (g_name 4) (g_cons (g_name 5) g_nil)))) (c_var 2))
  (c_seq (c_ifS (c_or (c_not (c_test (c_chain3 p_le p_lt p_lt (c_d (.int 0)) (c_var 3) (c_var 4) (c_prop 0 (m_Scheme_accounts G) (c_var 0))))) (c_or (c_test (c_op (p_eq false) (c_var 5) (c_d (.int 0)))) (c_not (c_test (c_cb (mp_is_reduced G) (c_cons (c_var 0) (c_cons (c_var 5) c_nil))))))) (c_ret (c_d .non)) c_nx)
  (c_ret (c_tup (c_cons (c_tup (c_cons (c_var 3) (c_cons (c_var 4) c_nil))) (c_cons (c_var 5) c_nil))))))))
noncomputable def m_entry_in (G : Gx) : List D → Sto → Res D := fnR 6 (c_entry_in G)
noncomputable def mp_entry_in (G : Gx) : List D → Sto → Res D := argsN 2 (m_entry_in G)
/-! read_table_text: 0 scheme, 1 text, 2 found, 3 index, 4 line, 5 entry -/
noncomputable def c_read_table_text (G : Gx) : SCode :=
  (c_seq (c_ifS (c_not (c_test (c_cb p_isi (c_cons (c_var 1) (c_cons (c_d (.ty "str")) c_nil))))) (c_raise 0 (c_un p_neg (c_d (.int 1)))) c_nx)
  (c_seq (c_set 2 (c_lst true c_nil))
  (c_seq (c_for (c_enum (c_cons (c_if (c_test (c_op (p_eqS true) (c_var 1) (c_d (.str "")))) (c_meth isS (p_split false) (c_var 1) (c_cons (c_d (.str "\n")) c_nil)) (c_lst false c_nil)) c_nil)) (g_tup 2 (g_cons (g_name 3) (g_cons (g_name 4) g_nil))) (c_seq (c_set 5 (c_cb (mp_entry_in G) (c_cons (c_var 0) (c_cons (c_var 4) c_nil))))
  (c_seq (c_ifS (c_or (c_test (c_op (p_isN false) (c_var 5) (c_d .non))) (c_and (c_test (c_op (p_eq true) (c_var 2) (c_lst false c_nil))) (c_test (c_op p_leT (c_op p_ix (c_var 5) (c_d (.int 0))) (c_op p_ix (c_op p_ix (c_var 2) (c_un p_neg (c_d (.int 1)))) (c_d (.int 0))))))) (c_raise 0 (c_var 3)) c_nx)
  (c_expr (c_meth isL p_append (c_var 2) (c_cons (c_var 5) c_nil))))))
  (c_ret (c_cb p_tuple (c_cons (c_var 2) c_nil))))))
noncomputable def m_read_table_text (G : Gx) : List D → Sto → Res D := fnR 6 (c_read_table_text G)
noncomputable def mp_read_table_text (G : Gx) : List D → Sto → Res D := argsN 2 (m_read_table_text G)
/-! _law_heard: 0 _law_plan, 1 _law_wording_here, 2 _law_by_name, 3 _law_found, 4 e -/
noncomputable def c__law_heard (G : Gx) : SCode :=
  (c_seq (c_set 3 (c_d (.str "other")))
  (c_seq (c_try tabm_BadText 4 (c_set 3 (c_if (c_test (c_var 2)) (c_callK 0 2 (gP D.non [1, 0]) (m_read_table_text G) c_nil (c_cons (c_var 1) (c_cons (c_var 0) c_nil))) (c_cb (mp_read_table_text G) (c_cons (c_var 0) (c_cons (c_var 1) c_nil))))) (c_set 3 (c_if (c_and (c_test (c_cb (p_isE (.con (G.exc 1)) tab_CrossError) (c_cons (c_var 4) (c_cons (c_d (.con (G.exc 1))) c_nil)))) (c_test (c_cb (p_isE (.ty "ValueError") tab_ValueError) (c_cons (c_var 4) (c_cons (c_d (.ty "ValueError")) c_nil))))) (c_xf 0 (c_var 4)) (c_d (.str "other")))))
  (c_ret (c_var 3))))
noncomputable def m__law_heard (G : Gx) : List D → Sto → Res D := fnR 5 (c__law_heard G)
noncomputable def mp__law_heard (G : Gx) : List D → Sto → Res D := argsN 3 (m__law_heard G)
/-! _law_integer: 0 _law_word, 1 _law_digits, 2 _law_sign -/
noncomputable def c__law_integer (G : Gx) : SCode :=
  (c_seq (c_set 1 (c_sl false (c_var 0) (c_part (c_cb p_int (c_cons (c_op (p_eqS false) (c_sl false (c_var 0) c_no (c_part (c_d (.int 1)))) (c_d (.str "-"))) c_nil))) c_no))
  (c_seq (c_ifS (c_or (c_test (c_op (p_eqS false) (c_var 1) (c_d (.str "")))) (c_or (c_test (c_op p_gt (c_cb p_len (c_cons (c_var 1) c_nil)) (c_d (.int 30)))) (c_test (c_op (p_eq true) (c_lc (c_itS (c_var 1)) (g_name 2) (c_test (c_op (p_inS true) (c_var 2) (c_d (.str "0123456789")))) (c_d (.int 1)) [2]) (c_lst false c_nil))))) (c_ret (c_d .non)) c_nx)
  (c_ret (c_if (c_test (c_op (p_eqS false) (c_cb p_str (c_cons (c_cb p_int (c_cons (c_var 0) c_nil)) c_nil)) (c_var 0))) (c_cb p_int (c_cons (c_var 0) c_nil)) (c_d .non)))))
noncomputable def m__law_integer (G : Gx) : List D → Sto → Res D := fnR 3 (c__law_integer G)
noncomputable def mp__law_integer (G : Gx) : List D → Sto → Res D := argsN 1 (m__law_integer G)
/-! _law_entry: 0 _law_sizes_here, 1 _law_line, 2 _law_numbers, 3 _law_word, 4 _law_first, 5 _law_second, 6 _law_number_here -/
noncomputable def c__law_entry (G : Gx) : SCode :=
  (c_seq (c_set 2 (c_lc (c_it (c_meth isS (p_split false) (c_var 1) (c_cons (c_d (.str " ")) c_nil))) (g_name 3) c_yes (c_cb (mp__law_integer G) (c_cons (c_var 3) c_nil)) [3]))
  (c_seq (c_ifS (c_or (c_test (c_op (p_eq true) (c_cb p_len (c_cons (c_var 2) c_nil)) (c_d (.int 3)))) (c_test (c_op (p_in false) (c_d .non) (c_var 2)))) (c_ret (c_d .non)) c_nx)
  (c_seq (c_asg (g_tup 3 (g_cons (g_name 4) (g_cons (g_name 5) (g_cons (g_name 6) g_nil)))) (c_var 2))
  (c_seq (c_ifS (c_or (c_test (c_op p_lt (c_var 4) (c_d (.int 0)))) (c_or (c_test (c_op p_ge (c_var 4) (c_var 5))) (c_or (c_test (c_op p_ge (c_var 5) (c_op p_ix (c_var 0) (c_d (.int 1))))) (c_or (c_test (c_op (p_eq false) (c_var 6) (c_d (.int 0)))) (c_test (c_op p_ge (c_op (p_mul false) (c_d (.int 2)) (c_cb p_abs (c_cons (c_var 6) c_nil))) (c_op p_ix (c_var 0) (c_d (.int 0))))))))) (c_ret (c_d .non)) c_nx)
  (c_ret (c_tup (c_cons (c_tup (c_cons (c_var 4) (c_cons (c_var 5) c_nil))) (c_cons (c_var 6) c_nil))))))))
noncomputable def m__law_entry (G : Gx) : List D → Sto → Res D := fnR 7 (c__law_entry G)
noncomputable def mp__law_entry (G : Gx) : List D → Sto → Res D := argsN 2 (m__law_entry G)
/-! _law_decided: 0 _law_sizes_here, 1 _law_wording_here, 2 _law_found, 3 _law_index, 4 _law_line, 5 _law_own_entry -/
noncomputable def c__law_decided (G : Gx) : SCode :=
  (c_seq (c_ifS (c_not (c_test (c_cb p_isi (c_cons (c_var 1) (c_cons (c_d (.ty "str")) c_nil))))) (c_ret (c_un p_neg (c_d (.int 1)))) c_nx)
  (c_seq (c_set 2 (c_lst true c_nil))
  (c_seq (c_for (c_enum (c_cons (c_if (c_test (c_op (p_eqS true) (c_var 1) (c_d (.str "")))) (c_meth isS (p_split false) (c_var 1) (c_cons (c_d (.str "\n")) c_nil)) (c_lst false c_nil)) c_nil)) (g_tup 2 (g_cons (g_name 3) (g_cons (g_name 4) g_nil))) (c_seq (c_set 5 (c_cb (mp__law_entry G) (c_cons (c_var 0) (c_cons (c_var 4) c_nil))))
  (c_seq (c_ifS (c_or (c_test (c_op (p_isN false) (c_var 5) (c_d .non))) (c_and (c_test (c_op (p_eq true) (c_var 2) (c_lst false c_nil))) (c_test (c_op p_geT (c_op p_ix (c_op p_ix (c_var 2) (c_un p_neg (c_d (.int 1)))) (c_d (.int 0))) (c_op p_ix (c_var 5) (c_d (.int 0))))))) (c_ret (c_var 3)) c_nx)
  (c_expr (c_meth isL p_append (c_var 2) (c_cons (c_var 5) c_nil))))))
  (c_ret (c_cb p_tuple (c_cons (c_var 2) c_nil))))))
noncomputable def m__law_decided (G : Gx) : List D → Sto → Res D := fnR 6 (c__law_decided G)
noncomputable def mp__law_decided (G : Gx) : List D → Sto → Res D := argsN 2 (m__law_decided G)
/-! _law_right: 0 _law_plan, 1 _law_sizes_here, 2 _law_wording_here, 3 _law_due -/
noncomputable def c__law_right (G : Gx) : SCode :=
  (c_seq (c_set 3 (c_cb (mp__law_decided G) (c_cons (c_var 1) (c_cons (c_var 2) c_nil))))
  (c_ret (c_op (p_eq false) (c_cb p_repr (c_cons (c_lst false (c_cons (c_cb (mp__law_heard G) (c_cons (c_var 0) (c_cons (c_var 2) (c_cons (c_d (.bl false)) c_nil)))) (c_cons (c_cb (mp__law_heard G) (c_cons (c_var 0) (c_cons (c_var 2) (c_cons (c_d (.bl true)) c_nil)))) c_nil))) c_nil)) (c_cb p_repr (c_cons (c_lst false (c_cons (c_var 3) (c_cons (c_var 3) c_nil))) c_nil)))))
noncomputable def m__law_right (G : Gx) : List D → Sto → Res D := fnR 4 (c__law_right G)
noncomputable def mp__law_right (G : Gx) : List D → Sto → Res D := argsN 3 (m__law_right G)
/-! table_text: 0 table, 1 first, 2 second, 3 amount -/
noncomputable def c_table_text (G : Gx) : SCode :=
  (c_ret (c_meth isS p_join (c_d (.str "\n")) (c_cons (c_lc (c_it (c_var 0)) (g_tup 2 (g_cons (g_tup 2 (g_cons (g_name 1) (g_cons (g_name 2) g_nil))) (g_cons (g_name 3) g_nil))) c_yes (c_meth isS p_join (c_d (.str " ")) (c_cons (c_lst false (c_cons (c_cb p_str (c_cons (c_var 1) c_nil)) (c_cons (c_cb p_str (c_cons (c_var 2) c_nil)) (c_cons (c_cb p_str (c_cons (c_var 3) c_nil)) c_nil)))) c_nil)) [1, 2, 3]) c_nil)))
noncomputable def m_table_text (G : Gx) : List D → Sto → Res D := fnR 4 (c_table_text G)
noncomputable def mp_table_text (G : Gx) : List D → Sto → Res D := argsN 1 (m_table_text G)
/-! law: 0 _law_script, 1 _law_source_here, 2 _law_turn, 3 _law_sizes_here, 4 _law_plan, 5 _law_entries, 6 _law_wording_here, 7 _law_step, 8 _law_bent_here, 9 _law_thing -/
noncomputable def c_law (G : Gx) : SCode :=
  (c_seq (c_set 1 (c_cb (mp__law_source G) (c_cons (c_var 0) c_nil)))
  (c_seq (c_for (c_rng1 (c_cons (c_d (.int 3)) c_nil)) (g_name 2) (c_seq (c_set 3 (c_cb (mp__law_sizes G) (c_cons (c_var 1) c_nil)))
  (c_seq (c_par 4 5 (c_cb (p_make false 0 (mp_Scheme__init_ G)) (c_cons (c_op p_ix (c_var 3) (c_d (.int 0))) (c_cons (c_op p_ix (c_var 3) (c_d (.int 1))) (c_cons (c_op p_ix (c_var 3) (c_d (.int 2))) c_nil)))) (c_cb (mp__law_any_table G) (c_cons (c_var 1) (c_cons (c_var 3) c_nil))))
  (c_seq (c_set 6 (c_cb (mp__law_wording G) (c_cons (c_var 5) c_nil)))
  (c_seq (c_ifS (c_test (c_op (p_eq true) (c_cb p_repr (c_cons (c_lst false (c_cons (c_cb (mp_table_text G) (c_cons (c_var 5) c_nil)) (c_cons (c_callK 0 1 (gP D.non [0]) (m_table_text G) c_nil (c_cons (c_var 5) c_nil)) c_nil))) c_nil)) (c_cb p_repr (c_cons (c_lst false (c_cons (c_var 6) (c_cons (c_var 6) c_nil))) c_nil)))) (c_ret (c_d (.bl false))) c_nx)
  (c_seq (c_ifS (c_test (c_op (p_eq true) (c_cb p_repr (c_cons (c_cb (mp__law_heard G) (c_cons (c_var 4) (c_cons (c_var 6) (c_cons (c_op (p_eq false) (c_var 2) (c_d (.int 0))) c_nil)))) c_nil)) (c_cb p_repr (c_cons (c_var 5) c_nil)))) (c_ret (c_d (.bl false))) c_nx)
  (c_seq (c_for (c_rng1 (c_cons (c_d (.int 10)) c_nil)) (g_name 7) (c_seq (c_set 8 (c_cb (mp__law_bent G) (c_cons (c_var 1) (c_cons (c_var 3) (c_cons (c_var 6) c_nil)))))
  (c_seq (c_ifS (c_test (c_op (p_eq false) (c_cb (mp__law_random G) (c_cons (c_var 1) (c_cons (c_d (.int 3)) c_nil))) (c_d (.int 0)))) (c_set 8 (c_cb (mp__law_bent G) (c_cons (c_var 1) (c_cons (c_var 3) (c_cons (c_var 8) c_nil))))) c_nx)
  (c_ifS (c_not (c_test (c_cb (mp__law_right G) (c_cons (c_var 4) (c_cons (c_var 3) (c_cons (c_var 8) c_nil)))))) (c_ret (c_d (.bl false))) c_nx))))
  (c_for (c_it (c_tup (c_cons (c_d (.str "")) (c_cons (c_d (.str "\n")) (c_cons (c_d (.str " ")) (c_cons (c_d (.str "0 1 1")) (c_cons (c_d (.str "0 1 1\n")) (c_cons (c_d .non) (c_cons (c_d (.bl true)) (c_cons (c_d (.int 0)) (c_cons (c_tup c_nil) (c_cons (c_lst false c_nil) (c_cons (c_var 5) (c_cons (c_lst false (c_cons (c_d (.str "0 1 1")) c_nil)) (c_cons (c_dK0 false) (c_cons (c_dispK false (c_ps (c_d (.str "0")) (c_d (.str "0 1 1")) c_ps0)) c_nil)))))))))))))))) (g_name 9) (c_ifS (c_not (c_test (c_cb (mp__law_right G) (c_cons (c_var 4) (c_cons (c_var 3) (c_cons (c_var 9) c_nil)))))) (c_ret (c_d (.bl false))) c_nx)))))))))
  (c_ret (c_d (.bl true)))))
noncomputable def m_law (G : Gx) : List D → Sto → Res D := fnR 10 (c_law G)
/-! ### what of the text is known -/
structure Txt (G : Gx) : Type where
  f__law_source : Addr
  d__law_source : FuncData
  F__law_source : Fun G.K "_law_source" "_law_source" s__law_source f__law_source d__law_source
  g__law_source : G.mg "_law_source" = some (.ref f__law_source)
  f__law_random : Addr
  d__law_random : FuncData
  F__law_random : Fun G.K "_law_random" "_law_random" s__law_random f__law_random d__law_random
  g__law_random : G.mg "_law_random" = some (.ref f__law_random)
  f__law_choice : Addr
  d__law_choice : FuncData
  F__law_choice : Fun G.K "_law_choice" "_law_choice" s__law_choice f__law_choice d__law_choice
  g__law_choice : G.mg "_law_choice" = some (.ref f__law_choice)
  f__law_sizes : Addr
  d__law_sizes : FuncData
  F__law_sizes : Fun G.K "_law_sizes" "_law_sizes" s__law_sizes f__law_sizes d__law_sizes
  g__law_sizes : G.mg "_law_sizes" = some (.ref f__law_sizes)
  f__law_wording : Addr
  d__law_wording : FuncData
  F__law_wording : Fun G.K "_law_wording" "_law_wording" s__law_wording f__law_wording d__law_wording
  g__law_wording : G.mg "_law_wording" = some (.ref f__law_wording)
  f_is_between : Addr
  d_is_between : FuncData
  F_is_between : Fun G.K "is_between" "is_between" s_is_between f_is_between d_is_between
  g_is_between : G.mg "is_between" = some (.ref f_is_between)
  f_reduced_modulo : Addr
  d_reduced_modulo : FuncData
  F_reduced_modulo : Fun G.K "reduced_modulo" "reduced_modulo" s_reduced_modulo f_reduced_modulo d_reduced_modulo
  g_reduced_modulo : G.mg "reduced_modulo" = some (.ref f_reduced_modulo)
  f_power_of : Addr
  d_power_of : FuncData
  F_power_of : Fun G.K "power_of" "power_of" s_power_of f_power_of d_power_of
  g_power_of : G.mg "power_of" = some (.ref f_power_of)
  f_is_probable : Addr
  d_is_probable : FuncData
  F_is_probable : Fun G.K "is_probable" "is_probable" s_is_probable f_is_probable d_is_probable
  g_is_probable : G.mg "is_probable" = some (.ref f_is_probable)
  f_is_odd_prime : Addr
  d_is_odd_prime : FuncData
  F_is_odd_prime : Fun G.K "is_odd_prime" "is_odd_prime" s_is_odd_prime f_is_odd_prime d_is_odd_prime
  g_is_odd_prime : G.mg "is_odd_prime" = some (.ref f_is_odd_prime)
  f_Scheme_is_prime : Addr
  d_Scheme_is_prime : FuncData
  F_Scheme_is_prime : Fun G.K "is_prime" "Scheme.is_prime" s_Scheme_is_prime f_Scheme_is_prime d_Scheme_is_prime
  f_Scheme__init_ : Addr
  d_Scheme__init_ : FuncData
  F_Scheme__init_ : Fun G.K "__init__" "Scheme.__init__" s_Scheme__init_ f_Scheme__init_ d_Scheme__init_
  f__law_any_table : Addr
  d__law_any_table : FuncData
  F__law_any_table : Fun G.K "_law_any_table" "_law_any_table" s__law_any_table f__law_any_table d__law_any_table
  g__law_any_table : G.mg "_law_any_table" = some (.ref f__law_any_table)
  f__law_odd_line : Addr
  d__law_odd_line : FuncData
  F__law_odd_line : Fun G.K "_law_odd_line" "_law_odd_line" s__law_odd_line f__law_odd_line d__law_odd_line
  g__law_odd_line : G.mg "_law_odd_line" = some (.ref f__law_odd_line)
  f__law_bent : Addr
  d__law_bent : FuncData
  F__law_bent : Fun G.K "_law_bent" "_law_bent" s__law_bent f__law_bent d__law_bent
  g__law_bent : G.mg "_law_bent" = some (.ref f__law_bent)
  f_integer_in : Addr
  d_integer_in : FuncData
  F_integer_in : Fun G.K "integer_in" "integer_in" s_integer_in f_integer_in d_integer_in
  g_integer_in : G.mg "integer_in" = some (.ref f_integer_in)
  f_integers_in : Addr
  d_integers_in : FuncData
  F_integers_in : Fun G.K "integers_in" "integers_in" s_integers_in f_integers_in d_integers_in
  g_integers_in : G.mg "integers_in" = some (.ref f_integers_in)
  f_is_integer : Addr
  d_is_integer : FuncData
  F_is_integer : Fun G.K "is_integer" "is_integer" s_is_integer f_is_integer d_is_integer
  g_is_integer : G.mg "is_integer" = some (.ref f_is_integer)
  f_Scheme_largest_amount : Addr
  d_Scheme_largest_amount : FuncData
  F_Scheme_largest_amount : Fun G.K "largest_amount" "Scheme.largest_amount" s_Scheme_largest_amount f_Scheme_largest_amount d_Scheme_largest_amount
  f_is_reduced : Addr
  d_is_reduced : FuncData
  F_is_reduced : Fun G.K "is_reduced" "is_reduced" s_is_reduced f_is_reduced d_is_reduced
  g_is_reduced : G.mg "is_reduced" = some (.ref f_is_reduced)
  f_Scheme_accounts : Addr
  d_Scheme_accounts : FuncData
  F_Scheme_accounts : Fun G.K "accounts" "Scheme.accounts" s_Scheme_accounts f_Scheme_accounts d_Scheme_accounts
  f_entry_in : Addr
  d_entry_in : FuncData
  F_entry_in : Fun G.K "entry_in" "entry_in" s_entry_in f_entry_in d_entry_in
  g_entry_in : G.mg "entry_in" = some (.ref f_entry_in)
  f_read_table_text : Addr
  d_read_table_text : FuncData
  F_read_table_text : Fun G.K "read_table_text" "read_table_text" s_read_table_text f_read_table_text d_read_table_text
  g_read_table_text : G.mg "read_table_text" = some (.ref f_read_table_text)
  f__law_heard : Addr
  d__law_heard : FuncData
  F__law_heard : Fun G.K "_law_heard" "_law_heard" s__law_heard f__law_heard d__law_heard
  g__law_heard : G.mg "_law_heard" = some (.ref f__law_heard)
  f__law_integer : Addr
  d__law_integer : FuncData
  F__law_integer : Fun G.K "_law_integer" "_law_integer" s__law_integer f__law_integer d__law_integer
  g__law_integer : G.mg "_law_integer" = some (.ref f__law_integer)
  f__law_entry : Addr
  d__law_entry : FuncData
  F__law_entry : Fun G.K "_law_entry" "_law_entry" s__law_entry f__law_entry d__law_entry
  g__law_entry : G.mg "_law_entry" = some (.ref f__law_entry)
  f__law_decided : Addr
  d__law_decided : FuncData
  F__law_decided : Fun G.K "_law_decided" "_law_decided" s__law_decided f__law_decided d__law_decided
  g__law_decided : G.mg "_law_decided" = some (.ref f__law_decided)
  f__law_right : Addr
  d__law_right : FuncData
  F__law_right : Fun G.K "_law_right" "_law_right" s__law_right f__law_right d__law_right
  g__law_right : G.mg "_law_right" = some (.ref f__law_right)
  f_table_text : Addr
  d_table_text : FuncData
  F_table_text : Fun G.K "table_text" "table_text" s_table_text f_table_text d_table_text
  g_table_text : G.mg "table_text" = some (.ref f_table_text)
  f_law : Addr
  d_law : FuncData
  F_law : Fun G.K "law" "law" s_law f_law d_law
  g_law : G.mg "law" = some (.ref f_law)
  cl_Scheme : Cls G.K (G.cls 0)
  g_Scheme : G.mg "Scheme" = some (.ref (G.cls 0))
  fn_Scheme : G.fns 0 = (["prime_used", "accounts_used", "length_used"] : List Str)
  mk_Scheme : Mk G.K (G.cls 0) f_Scheme__init_
  rd_Scheme : ClX.CRead G.K (G.cls 0) (.type "type")
  cu : G.cur = none
  ge_BadText : G.mg "BadText" = some (.ref (G.exc 0))
  ge_CrossError : G.mg "CrossError" = some (.ref (G.exc 1))
  f_BadText__init_ : Addr
  d_BadText__init_ : FuncData
  F_BadText__init_ : Fun G.K "__init__" "BadText.__init__" s_BadText__init_ f_BadText__init_ d_BadText__init_
  ox_BadText : OexC G.K (G.exc 0)
  xi_BadText : PySem.W.findIn G.K (.ref (G.exc 0)) "__init__" = some (some (.ref f_BadText__init_))
  xt_BadText : PySem.W.typeIn G.K (.ref f_BadText__init_) = some (.type "function")
  xf_BadText : G.exf 0 = "line"
  xn_BadText : PySem.W.findIn G.K (.ref (G.exc 0)) "line" = some none
  rdE_CrossError : ClX.CRead G.K (G.exc 1) (.type "type")
  xv_CrossError : PySem.W.findCls G.K (.ref (G.exc 1)) (.type "type") "__init__" = some (.val (.builtin "ValueError.__init__"))
  xfc_BadText : XfC G.K (G.exc 0)
  xec_BadText : ExcC G.K (G.exc 0)
  xm_BadText_BadText : PySem.W.exmOne G.K (.ref (G.exc 0)) (.ref (G.exc 0)) = some true
  xk_BadText_CrossError : PySem.W.kitOne G.K (.ref (G.exc 0)) (.ref (G.exc 1)) = some true
  xk_BadText_ValueError : PySem.W.kitOne G.K (.ref (G.exc 0)) (.type "ValueError") = some true
  z_ValueError : G.mg "ValueError" = none
  z_abs : G.mg "abs" = none
  z_all : G.mg "all" = none
  z_bool : G.mg "bool" = none
  z_enumerate : G.mg "enumerate" = none
  z_int : G.mg "int" = none
  z_isinstance : G.mg "isinstance" = none
  z_len : G.mg "len" = none
  z_list : G.mg "list" = none
  z_range : G.mg "range" = none
  z_repr : G.mg "repr" = none
  z_str : G.mg "str" = none
  z_tuple : G.mg "tuple" = none
  ka_BASES : Addr
  kv_BASES : List V
  kg_BASES : G.mg "BASES" = some (.ref ka_BASES)
  kw_BASES : WrT G.K ka_BASES kv_BASES
  kr_BASES : ∀ ι L H, Reps G ι L H kv_BASES [.int 2, .int 3, .int 5, .int 7]
  kt_DIGITS : Tok
  kg_DIGITS : G.mg "DIGITS" = some (.str "0123456789" kt_DIGITS)
  kt_ENTRY_NUMBERS : Tok
  kg_ENTRY_NUMBERS : G.mg "ENTRY_NUMBERS" = some (.int 3 kt_ENTRY_NUMBERS)
  kt_LEAST_ACCOUNTS : Tok
  kg_LEAST_ACCOUNTS : G.mg "LEAST_ACCOUNTS" = some (.int 2 kt_LEAST_ACCOUNTS)
  kt_MOST_DIGITS : Tok
  kg_MOST_DIGITS : G.mg "MOST_DIGITS" = some (.int 10 kt_MOST_DIGITS)
  t_Scheme_LARGEST_PRIME : Tok
  v_Scheme_LARGEST_PRIME : ClX.CVal G.K (G.cls 0) (.type "type") "LARGEST_PRIME" (.int 1000000000) (.int 1000000000 t_Scheme_LARGEST_PRIME)
  t_Scheme_MOST_ACCOUNTS : Tok
  v_Scheme_MOST_ACCOUNTS : ClX.CVal G.K (G.cls 0) (.type "type") "MOST_ACCOUNTS" (.int 24) (.int 24 t_Scheme_MOST_ACCOUNTS)
  t_Scheme_MOST_NUMBERS : Tok
  v_Scheme_MOST_NUMBERS : ClX.CVal G.K (G.cls 0) (.type "type") "MOST_NUMBERS" (.int 24) (.int 24 t_Scheme_MOST_NUMBERS)
  n_Scheme_accounts_used : NoAttr G.K (G.cls 0) "accounts_used"
  n_Scheme_length_used : NoAttr G.K (G.cls 0) "length_used"
  n_Scheme_prime_used : NoAttr G.K (G.cls 0) "prime_used"
  pr_Scheme_accounts : Addr
  p_Scheme_accounts : PropOf G.K (G.cls 0) "accounts" pr_Scheme_accounts f_Scheme_accounts
  pr_Scheme_largest_amount : Addr
  p_Scheme_largest_amount : PropOf G.K (G.cls 0) "largest_amount" pr_Scheme_largest_amount f_Scheme_largest_amount
  sp_Scheme_is_prime : Addr
  st_Scheme_is_prime : SMet G.K (G.cls 0) (.type "type") "is_prime" sp_Scheme_is_prime f_Scheme_is_prime
theorem sc__law_source : FnScope ["_law_script", "_law_cells", "_law_mixed", "_law_cell"] ["_law_script"] (defScope s__law_source) := ⟨rfl, rfl, rfl, by decide +kernel, rfl, by decide +kernel, by decide +kernel⟩
theorem sc__law_random : FnScope ["_law_source_here", "_law_count", "_law_cell", "_law_mixed"] ["_law_source_here", "_law_count"] (defScope s__law_random) := ⟨rfl, rfl, rfl, by decide +kernel, rfl, by decide +kernel, by decide +kernel⟩
theorem sc__law_choice : FnScope ["_law_source_here", "_law_items"] ["_law_source_here", "_law_items"] (defScope s__law_choice) := ⟨rfl, rfl, rfl, by decide +kernel, rfl, by decide +kernel, by decide +kernel⟩
theorem sc__law_sizes : FnScope ["_law_source_here", "_law_count", "_law_least", "_law_modulus"] ["_law_source_here"] (defScope s__law_sizes) := ⟨rfl, rfl, rfl, by decide +kernel, rfl, by decide +kernel, by decide +kernel⟩
theorem sc__law_wording : FnScope ["_law_entries", "_law_lines", "_law_first", "_law_second", "_law_number_here"] ["_law_entries"] (defScope s__law_wording) := ⟨rfl, rfl, rfl, by decide +kernel, rfl, by decide +kernel, by decide +kernel⟩
theorem sc_is_between : FnScope ["value", "least", "most"] ["value", "least", "most"] (defScope s_is_between) := ⟨rfl, rfl, rfl, by decide +kernel, rfl, by decide +kernel, by decide +kernel⟩
theorem sc_reduced_modulo : FnScope ["number", "prime", "rest"] ["number", "prime"] (defScope s_reduced_modulo) := ⟨rfl, rfl, rfl, by decide +kernel, rfl, by decide +kernel, by decide +kernel⟩
theorem sc_power_of : FnScope ["base", "exponent", "prime", "result", "square", "left"] ["base", "exponent", "prime"] (defScope s_power_of) := ⟨rfl, rfl, rfl, by decide +kernel, rfl, by decide +kernel, by decide +kernel⟩
theorem sc_is_probable : FnScope ["number", "base", "odd", "twos", "power", "turn"] ["number", "base"] (defScope s_is_probable) := ⟨rfl, rfl, rfl, by decide +kernel, rfl, by decide +kernel, by decide +kernel⟩
theorem sc_is_odd_prime : FnScope ["number", "base"] ["number"] (defScope s_is_odd_prime) := ⟨rfl, rfl, rfl, by decide +kernel, rfl, by decide +kernel, by decide +kernel⟩
theorem sc_Scheme_is_prime : FnScope ["value"] ["value"] (defScope s_Scheme_is_prime) := ⟨rfl, rfl, rfl, by decide +kernel, rfl, by decide +kernel, by decide +kernel⟩
theorem sc_Scheme__init_ : FnScope ["self", "prime", "accounts", "length"] ["self", "prime", "accounts", "length"] (defScope s_Scheme__init_) := ⟨rfl, rfl, rfl, by decide +kernel, rfl, by decide +kernel, by decide +kernel⟩
theorem sc__law_any_table : FnScope ["_law_source_here", "_law_sizes_here", "_law_chance", "_law_half", "_law_found", "_law_first", "_law_second", "_law_some"] ["_law_source_here", "_law_sizes_here"] (defScope s__law_any_table) := ⟨rfl, rfl, rfl, by decide +kernel, rfl, by decide +kernel, by decide +kernel⟩
theorem sc__law_odd_line : FnScope ["_law_source_here", "_law_sizes_here", "_law_half", "_law_last", "_law_words", "_law_number_here", "_law_k"] ["_law_source_here", "_law_sizes_here"] (defScope s__law_odd_line) := ⟨rfl, rfl, rfl, by decide +kernel, rfl, by decide +kernel, by decide +kernel⟩
theorem sc__law_bent : FnScope ["_law_source_here", "_law_sizes_here", "_law_wording_here", "_law_lines", "_law_at", "_law_other", "_law_odd", "_law_way", "_law_some", "_law_sign"] ["_law_source_here", "_law_sizes_here", "_law_wording_here"] (defScope s__law_bent) := ⟨rfl, rfl, rfl, by decide +kernel, rfl, by decide +kernel, by decide +kernel⟩
theorem sc_integer_in : FnScope ["word", "digits", "digit"] ["word"] (defScope s_integer_in) := ⟨rfl, rfl, rfl, by decide +kernel, rfl, by decide +kernel, by decide +kernel⟩
theorem sc_integers_in : FnScope ["words", "word"] ["words"] (defScope s_integers_in) := ⟨rfl, rfl, rfl, by decide +kernel, rfl, by decide +kernel, by decide +kernel⟩
theorem sc_is_integer : FnScope ["value"] ["value"] (defScope s_is_integer) := ⟨rfl, rfl, rfl, by decide +kernel, rfl, by decide +kernel, by decide +kernel⟩
theorem sc_Scheme_largest_amount : FnScope ["self"] ["self"] (defScope s_Scheme_largest_amount) := ⟨rfl, rfl, rfl, by decide +kernel, rfl, by decide +kernel, by decide +kernel⟩
theorem sc_is_reduced : FnScope ["scheme", "value"] ["scheme", "value"] (defScope s_is_reduced) := ⟨rfl, rfl, rfl, by decide +kernel, rfl, by decide +kernel, by decide +kernel⟩
theorem sc_Scheme_accounts : FnScope ["self"] ["self"] (defScope s_Scheme_accounts) := ⟨rfl, rfl, rfl, by decide +kernel, rfl, by decide +kernel, by decide +kernel⟩
theorem sc_entry_in : FnScope ["scheme", "line", "numbers", "first", "second", "amount"] ["scheme", "line"] (defScope s_entry_in) := ⟨rfl, rfl, rfl, by decide +kernel, rfl, by decide +kernel, by decide +kernel⟩
theorem sc_read_table_text : FnScope ["scheme", "text", "found", "index", "line", "entry"] ["scheme", "text"] (defScope s_read_table_text) := ⟨rfl, rfl, rfl, by decide +kernel, rfl, by decide +kernel, by decide +kernel⟩
theorem sc__law_heard : FnScope ["_law_plan", "_law_wording_here", "_law_by_name", "_law_found", "e"] ["_law_plan", "_law_wording_here", "_law_by_name"] (defScope s__law_heard) := ⟨rfl, rfl, rfl, by decide +kernel, rfl, by decide +kernel, by decide +kernel⟩
theorem sc__law_integer : FnScope ["_law_word", "_law_digits", "_law_sign"] ["_law_word"] (defScope s__law_integer) := ⟨rfl, rfl, rfl, by decide +kernel, rfl, by decide +kernel, by decide +kernel⟩
theorem sc__law_entry : FnScope ["_law_sizes_here", "_law_line", "_law_numbers", "_law_word", "_law_first", "_law_second", "_law_number_here"] ["_law_sizes_here", "_law_line"] (defScope s__law_entry) := ⟨rfl, rfl, rfl, by decide +kernel, rfl, by decide +kernel, by decide +kernel⟩
theorem sc__law_decided : FnScope ["_law_sizes_here", "_law_wording_here", "_law_found", "_law_index", "_law_line", "_law_own_entry"] ["_law_sizes_here", "_law_wording_here"] (defScope s__law_decided) := ⟨rfl, rfl, rfl, by decide +kernel, rfl, by decide +kernel, by decide +kernel⟩
theorem sc__law_right : FnScope ["_law_plan", "_law_sizes_here", "_law_wording_here", "_law_due"] ["_law_plan", "_law_sizes_here", "_law_wording_here"] (defScope s__law_right) := ⟨rfl, rfl, rfl, by decide +kernel, rfl, by decide +kernel, by decide +kernel⟩
theorem sc_table_text : FnScope ["table", "first", "second", "amount"] ["table"] (defScope s_table_text) := ⟨rfl, rfl, rfl, by decide +kernel, rfl, by decide +kernel, by decide +kernel⟩
theorem sc_law : FnScope ["_law_script", "_law_source_here", "_law_turn", "_law_sizes_here", "_law_plan", "_law_entries", "_law_wording_here", "_law_step", "_law_bent_here", "_law_thing"] ["_law_script"] (defScope s_law) := ⟨rfl, rfl, rfl, by decide +kernel, rfl, by decide +kernel, by decide +kernel⟩
theorem sc_BadText__init_ : FnScope ["self", "line"] ["self", "line"] (defScope s_BadText__init_) := ⟨rfl, rfl, rfl, by decide +kernel, rfl, by decide +kernel, by decide +kernel⟩
namespace Txt
variable {G : Gx} (T : Txt G)
include T
theorem b_BadText__init_ : Binds G.K T.d_BadText__init_ ["self", "line"] [] := T.F_BadText__init_.binds fun _ _ _ _ _ _ us hl => match us, hl with | [_, _], _ => rfl
theorem x_BadText : ErrT G 0 T.f_BadText__init_ T.d_BadText__init_ ["self", "line"] := ⟨T.ox_BadText, T.xi_BadText, T.xt_BadText, by rw [T.xf_BadText]; exact T.xn_BadText, by
  rw [T.xf_BadText]
  exact err_fn (msg := "this line cannot stand here") T.F_BadText__init_ sc_BadText__init_ rfl rfl (fun E p => pss_cons (ps_expr (pe_baseinit (CE := G.exc 1) (mc := .type "type") rfl T.ge_CrossError rfl T.rdE_CrossError T.xv_CrossError (pa_cons (pe_var (i := 0) rfl (.inl rfl)) (pa_cons pe_str pa_nil)))) (pss_one (ps_ost (pe_var (i := 0) rfl (.inl rfl)) (pe_var (i := 1) rfl (.inl rfl))))), T.b_BadText__init_⟩
theorem hm_BadText : ∀ c b, tabm_BadText c = some b → PySem.W.exmOne G.K (.ref (G.exc c)) (.ref (G.exc 0)) = some b
  | 0, _, h => by cases h; exact T.xm_BadText_BadText
  | _ + 1, _, h => by cases h
theorem hk_CrossError : ∀ c b, tab_CrossError c = some b → PySem.W.kitOne G.K (.ref (G.exc c)) (.ref (G.exc 1)) = some b
  | 0, _, h => by cases h; exact T.xk_BadText_CrossError
  | _ + 1, _, h => by cases h
theorem he_CrossError : ∀ c b, tab_CrossError c = some b → ExcC G.K (G.exc c)
  | 0, _, h => by cases h; exact T.xec_BadText
  | _ + 1, _, h => by cases h
theorem hk_ValueError : ∀ c b, tab_ValueError c = some b → PySem.W.kitOne G.K (.ref (G.exc c)) (.type "ValueError") = some b
  | 0, _, h => by cases h; exact T.xk_BadText_ValueError
  | _ + 1, _, h => by cases h
theorem he_ValueError : ∀ c b, tab_ValueError c = some b → ExcC G.K (G.exc c)
  | 0, _, h => by cases h; exact T.xec_BadText
  | _ + 1, _, h => by cases h
theorem c_BASES {I : Type} {Xs : I → Cx} {E : WK} {kk : Nat} {pos : Pos} (F : Fam Xs G E kk) (hg : ∀ j, Gl (Xs j) "BASES") : DE Xs G E (.Name "BASES" pos) (c_d k_BASES) :=
  de_glob F.toFamH hg T.kg_BASES (show RelV (.ref _) (.ref _) from rfl) (fun ι L H => .wtp T.kw_BASES (T.kr_BASES ι L H)) (by decide)
theorem c_DIGITS {I : Type} {Xs : I → Cx} {E : WK} {kk : Nat} {pos : Pos} (F : Fam Xs G E kk) (hg : ∀ j, Gl (Xs j) "DIGITS") : DE Xs G E (.Name "DIGITS" pos) (c_d k_DIGITS) :=
  de_glob F.toFamH hg T.kg_DIGITS (v := .str "0123456789") ⟨_, rfl⟩ (fun _ _ _ => .str _) (by decide)
theorem c_ENTRY_NUMBERS {I : Type} {Xs : I → Cx} {E : WK} {kk : Nat} {pos : Pos} (F : Fam Xs G E kk) (hg : ∀ j, Gl (Xs j) "ENTRY_NUMBERS") : DE Xs G E (.Name "ENTRY_NUMBERS" pos) (c_d k_ENTRY_NUMBERS) :=
  de_glob F.toFamH hg T.kg_ENTRY_NUMBERS (v := .int 3) ⟨_, rfl⟩ (fun _ _ _ => .int _) (by decide)
theorem c_LEAST_ACCOUNTS {I : Type} {Xs : I → Cx} {E : WK} {kk : Nat} {pos : Pos} (F : Fam Xs G E kk) (hg : ∀ j, Gl (Xs j) "LEAST_ACCOUNTS") : DE Xs G E (.Name "LEAST_ACCOUNTS" pos) (c_d k_LEAST_ACCOUNTS) :=
  de_glob F.toFamH hg T.kg_LEAST_ACCOUNTS (v := .int 2) ⟨_, rfl⟩ (fun _ _ _ => .int _) (by decide)
theorem c_MOST_DIGITS {I : Type} {Xs : I → Cx} {E : WK} {kk : Nat} {pos : Pos} (F : Fam Xs G E kk) (hg : ∀ j, Gl (Xs j) "MOST_DIGITS") : DE Xs G E (.Name "MOST_DIGITS" pos) (c_d k_MOST_DIGITS) :=
  de_glob F.toFamH hg T.kg_MOST_DIGITS (v := .int 10) ⟨_, rfl⟩ (fun _ _ _ => .int _) (by decide)
theorem k__law_source : PySem.W.keepIn G.K (.ref T.f__law_source) = true := T.F__law_source.kp
theorem b__law_source : Binds G.K T.d__law_source ["_law_script"] [] := T.F__law_source.binds fun _ _ _ _ _ _ us hl => match us, hl with | [_], _ => rfl
theorem e__law_source : ∀ E, DSs (FnX G 0 ["_law_script", "_law_cells", "_law_mixed", "_law_cell"] "_law_source" (defScope s__law_source) T.f__law_source E) G (fun _ => E) (defBody s__law_source) (c__law_source G) := fun E => by
  have F := fnX_fam (G := G) (k := 0) (qual := "_law_source") (f := T.f__law_source) sc__law_source E
  exact (dss_cons (ds_par F (i := 1) (j := 2) (fun _ => rfl) (fun _ => rfl) (by decide) (fun _ => rfl) (fun _ => rfl) (de_callTy F.toFamH (fun _ => call_list_of) (snd_list false) (da_cons (de_sl false (de_var (i := 0) (fun _ => rfl) (fun _ => .inl rfl) (by decide) (by decide)) dp_none (dp_some de_int) F) da_nil (fun _ => rfl)) (fun _ => rfl) T.z_list rfl (by decide) (by decide) (fun _ => rfl) (fun _ => rfl)) de_int (fun _ => rfl) (fun _ => rfl) (fun _ => rfl) (fun _ => rfl))
  (dss_cons (ds_for F (di_seq F.toFamH (de_var (i := 1) (fun _ => rfl) (fun _ => .inl rfl) (by decide) (by decide))) (dg_name F.toFamH (i := 3) (fun _ => rfl) (fun _ => .inl rfl) (fun _ => .inr rfl)) (dss_one (ds_set F.toFamH (i := 2) (fun _ => rfl) (fun _ => .inl rfl) (fun _ => .inr rfl) (de_op (fun _ => op_mod) snd_mod (de_op (fun _ => op_addU) (snd_add false) (de_op (fun _ => op_addU) (snd_add false) (de_op (fun _ => op_mulU) (snd_mul false) (de_var (i := 2) (fun _ => rfl) (fun _ => .inl rfl) (by decide) (by decide)) de_int) (de_op (fun _ => op_mod) snd_mod (de_var (i := 3) (fun _ => rfl) (fun _ => .inl rfl) (by decide) (by decide)) de_int)) de_int) de_int) (fun _ => rfl))) owns_fn (fun _ _ => rfl))
  (dss_one (ds_ret (de_lst true (da_cons (de_rev true F (de_var (i := 1) (fun _ => rfl) (fun _ => .inl rfl) (by decide) (by decide))) (da_cons (de_var (i := 2) (fun _ => rfl) (fun _ => .inl rfl) (by decide) (by decide)) (da_cons de_int da_nil (fun _ => rfl)) (fun _ => rfl)) (fun _ => rfl)))))))
theorem B__law_source : FnB G 1 T.f__law_source T.d__law_source ["_law_script"] (m__law_source G) := FnB.of T.F__law_source sc__law_source T.e__law_source
theorem P__law_source : FnP G 1 T.f__law_source (mp__law_source G) := T.B__law_source.pos T.b__law_source
theorem k__law_random : PySem.W.keepIn G.K (.ref T.f__law_random) = true := T.F__law_random.kp
theorem b__law_random : Binds G.K T.d__law_random ["_law_source_here", "_law_count"] [] := T.F__law_random.binds fun _ _ _ _ _ _ us hl => match us, hl with | [_, _], _ => rfl
theorem e__law_random : ∀ E, DSs (FnX G 0 ["_law_source_here", "_law_count", "_law_cell", "_law_mixed"] "_law_random" (defScope s__law_random) T.f__law_random E) G (fun _ => E) (defBody s__law_random) (c__law_random G) := fun E => by
  have F := fnX_fam (G := G) (k := 0) (qual := "_law_random") (f := T.f__law_random) sc__law_random E
  exact (dss_cons (ds_setI F.toFamH (de_op (fun _ => op_addU) (snd_add false) (de_ix F.toFamH (de_var (i := 0) (fun _ => rfl) (fun _ => .inl rfl) (by decide) (by decide)) de_int (fun _ _ => rfl)) de_int) (de_var (i := 0) (fun _ => rfl) (fun _ => .inl rfl) (by decide) (by decide)) de_int (fun _ => rfl) (fun _ => rfl) (fun _ => rfl) (fun _ _ => rfl))
  (dss_cons (ds_set F.toFamH (i := 2) (fun _ => rfl) (fun _ => .inl rfl) (fun _ => .inr rfl) (de_ix F.toFamH (de_var (i := 0) (fun _ => rfl) (fun _ => .inl rfl) (by decide) (by decide)) de_int (fun _ _ => rfl)) (fun _ => rfl))
  (dss_cons (ds_if (dt_cmp (neD_at F.toFamH) snd_ne (de_ix F.toFamH (de_var (i := 0) (fun _ => rfl) (fun _ => .inl rfl) (by decide) (by decide)) de_int (fun _ _ => rfl)) (de_lst false da_nil) rfl) (dss_cons (ds_set F.toFamH (i := 2) (fun _ => rfl) (fun _ => .inl rfl) (fun _ => .inr rfl) (de_meth0 F.toFamH PySem.F.plainAttrs_list PySem.F.slot_list_pop PySem.F.type_list_pop (fun _ => mt_pop) snd_pop (fun _ _ _ _ _ R r h => isL_ty R r h) (de_ix F.toFamH (de_var (i := 0) (fun _ => rfl) (fun _ => .inl rfl) (by decide) (by decide)) de_int (fun _ _ => rfl)) (fun _ => rfl) rfl) (fun _ => rfl))
  (dss_cons (ds_if (dt_cmp (fun _ => op_ge) (snd_cmp _) (de_var (i := 2) (fun _ => rfl) (fun _ => .inl rfl) (by decide) (by decide)) (de_op (fun _ => op_pow) snd_pow de_int de_int) rfl) (dss_cons (ds_expr (de_meth F.toFamH PySem.F.plainAttrs_list PySem.F.slot_list_append PySem.F.type_list_append (fun _ => mt_append) snd_append (fun _ _ _ _ _ R r h => isL_ty R r h) (de_ix F.toFamH (de_var (i := 0) (fun _ => rfl) (fun _ => .inl rfl) (by decide) (by decide)) de_int (fun _ _ => rfl)) (da_cons (de_op (fun _ => op_fdivW) snd_fdiv (de_var (i := 2) (fun _ => rfl) (fun _ => .inl rfl) (by decide) (by decide)) (de_var (i := 1) (fun _ => rfl) (fun _ => .inl rfl) (by decide) (by decide))) da_nil (fun _ => rfl)) (fun _ => rfl) (fun _ => rfl) rfl (fun _ => rfl) (fun _ => rfl)) (fun _ => rfl))
  (dss_one (ds_ret (de_op (fun _ => op_mod) snd_mod (de_var (i := 2) (fun _ => rfl) (fun _ => .inl rfl) (by decide) (by decide)) (de_var (i := 1) (fun _ => rfl) (fun _ => .inl rfl) (by decide) (by decide)))))) dss_nil)
  (dss_one (ds_set F.toFamH (i := 2) (fun _ => rfl) (fun _ => .inl rfl) (fun _ => .inr rfl) (de_op (fun _ => op_addU) (snd_add false) (de_var (i := 2) (fun _ => rfl) (fun _ => .inl rfl) (by decide) (by decide)) (de_ix F.toFamH (de_var (i := 0) (fun _ => rfl) (fun _ => .inl rfl) (by decide) (by decide)) de_int (fun _ _ => rfl))) (fun _ => rfl))))) dss_nil)
  (dss_cons (ds_set F.toFamH (i := 3) (fun _ => rfl) (fun _ => .inl rfl) (fun _ => .inr rfl) (de_op (fun _ => op_mod) snd_mod (de_op (fun _ => op_mulU) (snd_mul false) (de_op (fun _ => op_addU) (snd_add false) (de_op (fun _ => op_addU) (snd_add false) (de_op (fun _ => op_mod) snd_mod (de_var (i := 2) (fun _ => rfl) (fun _ => .inl rfl) (by decide) (by decide)) de_int) (de_op (fun _ => op_mulU) (snd_mul false) (de_op (fun _ => op_mulU) (snd_mul false) de_int (de_ix F.toFamH (de_var (i := 0) (fun _ => rfl) (fun _ => .inl rfl) (by decide) (by decide)) de_int (fun _ _ => rfl))) (de_ix F.toFamH (de_var (i := 0) (fun _ => rfl) (fun _ => .inl rfl) (by decide) (by decide)) de_int (fun _ _ => rfl)))) de_int) de_int) de_int) (fun _ => rfl))
  (dss_cons (ds_set F.toFamH (i := 3) (fun _ => rfl) (fun _ => .inl rfl) (fun _ => .inr rfl) (de_op (fun _ => op_mod) snd_mod (de_op (fun _ => op_addU) (snd_add false) (de_op (fun _ => op_addU) (snd_add false) (de_op (fun _ => op_mulU) (snd_mul false) (de_var (i := 3) (fun _ => rfl) (fun _ => .inl rfl) (by decide) (by decide)) (de_var (i := 3) (fun _ => rfl) (fun _ => .inl rfl) (by decide) (by decide))) (de_op (fun _ => op_mulU) (snd_mul false) de_int (de_ix F.toFamH (de_var (i := 0) (fun _ => rfl) (fun _ => .inl rfl) (by decide) (by decide)) de_int (fun _ _ => rfl)))) de_int) de_int) (fun _ => rfl))
  (dss_one (ds_ret (de_op (fun _ => op_mod) snd_mod (de_op (fun _ => op_fdivW) snd_fdiv (de_op (fun _ => op_mod) snd_mod (de_op (fun _ => op_mulU) (snd_mul false) (de_var (i := 3) (fun _ => rfl) (fun _ => .inl rfl) (by decide) (by decide)) de_int) de_int) de_int) (de_var (i := 1) (fun _ => rfl) (fun _ => .inl rfl) (by decide) (by decide))))))))))
theorem B__law_random : FnB G 1 T.f__law_random T.d__law_random ["_law_source_here", "_law_count"] (m__law_random G) := FnB.of T.F__law_random sc__law_random T.e__law_random
theorem P__law_random : FnP G 1 T.f__law_random (mp__law_random G) := T.B__law_random.pos T.b__law_random
theorem k__law_choice : PySem.W.keepIn G.K (.ref T.f__law_choice) = true := T.F__law_choice.kp
theorem b__law_choice : Binds G.K T.d__law_choice ["_law_source_here", "_law_items"] [] := T.F__law_choice.binds fun _ _ _ _ _ _ us hl => match us, hl with | [_, _], _ => rfl
theorem e__law_choice : ∀ E, DSs (FnX G 1 ["_law_source_here", "_law_items"] "_law_choice" (defScope s__law_choice) T.f__law_choice E) G (fun _ => E) (defBody s__law_choice) (c__law_choice G) := fun E => by
  have F := fnX_fam (G := G) (k := 1) (qual := "_law_choice") (f := T.f__law_choice) sc__law_choice E
  exact (dss_one (ds_ret (de_ix F.toFamH (de_var (i := 1) (fun _ => rfl) (fun _ => .inl rfl) (by decide) (by decide)) (de_callP F T.P__law_random (by decide) (da_cons (de_var (i := 0) (fun _ => rfl) (fun _ => .inl rfl) (by decide) (by decide)) (da_cons (de_callB F.toFamH (fun _ => call_lenU) snd_len (da_cons (de_var (i := 1) (fun _ => rfl) (fun _ => .inl rfl) (by decide) (by decide)) da_nil (fun _ => rfl)) (fun _ => rfl) T.z_len rfl (by decide) (by decide) (fun _ => rfl) (fun _ => rfl)) da_nil (fun _ => rfl)) (fun _ => rfl)) (fun _ => rfl) T.g__law_random T.k__law_random (by decide) (fun _ => rfl) (fun _ => rfl)) (fun _ _ => rfl))))
theorem B__law_choice : FnB G 2 T.f__law_choice T.d__law_choice ["_law_source_here", "_law_items"] (m__law_choice G) := FnB.of T.F__law_choice sc__law_choice T.e__law_choice
theorem P__law_choice : FnP G 2 T.f__law_choice (mp__law_choice G) := T.B__law_choice.pos T.b__law_choice
theorem k__law_sizes : PySem.W.keepIn G.K (.ref T.f__law_sizes) = true := T.F__law_sizes.kp
theorem b__law_sizes : Binds G.K T.d__law_sizes ["_law_source_here"] [] := T.F__law_sizes.binds fun _ _ _ _ _ _ us hl => match us, hl with | [_], _ => rfl
theorem e__law_sizes : ∀ E, DSs (FnX G 2 ["_law_source_here", "_law_count", "_law_least", "_law_modulus"] "_law_sizes" (defScope s__law_sizes) T.f__law_sizes E) G (fun _ => E) (defBody s__law_sizes) (c__law_sizes G) := fun E => by
  have F := fnX_fam (G := G) (k := 2) (qual := "_law_sizes") (f := T.f__law_sizes) sc__law_sizes E
  exact (dss_cons (ds_set F.toFamH (i := 1) (fun _ => rfl) (fun _ => .inl rfl) (fun _ => .inr rfl) (de_callP F T.P__law_choice (by decide) (da_cons (de_var (i := 0) (fun _ => rfl) (fun _ => .inl rfl) (by decide) (by decide)) (da_cons (de_lst false (da_cons de_int (da_cons de_int (da_cons de_int (da_cons de_int (da_cons de_int (da_cons de_int (da_cons de_int (da_cons de_int (da_cons de_int da_nil (fun _ => rfl)) (fun _ => rfl)) (fun _ => rfl)) (fun _ => rfl)) (fun _ => rfl)) (fun _ => rfl)) (fun _ => rfl)) (fun _ => rfl)) (fun _ => rfl))) da_nil (fun _ => rfl)) (fun _ => rfl)) (fun _ => rfl) T.g__law_choice T.k__law_choice (by decide) (fun _ => rfl) (fun _ => rfl)) (fun _ => rfl))
  (dss_cons (ds_set F.toFamH (i := 2) (fun _ => rfl) (fun _ => .inl rfl) (fun _ => .inr rfl) (de_ix F.toFamH (de_dispK false F (dps_cons de_int de_int (dps_cons de_int de_int (dps_cons de_int de_int (dps_cons de_int de_int (dps_cons de_int de_int (dps_cons de_int de_int (dps_cons de_int de_int dps_nil))))))) rfl rfl (List.cons_ne_nil _ _) (by decide)) (de_var (i := 1) (fun _ => rfl) (fun _ => .inl rfl) (by decide) (by decide)) (fun _ _ => rfl)) (fun _ => rfl))
  (dss_cons (ds_set F.toFamH (i := 3) (fun _ => rfl) (fun _ => .inl rfl) (fun _ => .inr rfl) (de_callP F T.P__law_choice (by decide) (da_cons (de_var (i := 0) (fun _ => rfl) (fun _ => .inl rfl) (by decide) (by decide)) (da_cons (de_lst false (da_cons (de_var (i := 2) (fun _ => rfl) (fun _ => .inl rfl) (by decide) (by decide)) (da_cons (de_var (i := 2) (fun _ => rfl) (fun _ => .inl rfl) (by decide) (by decide)) (da_cons de_int (da_cons de_int (da_cons de_int da_nil (fun _ => rfl)) (fun _ => rfl)) (fun _ => rfl)) (fun _ => rfl)) (fun _ => rfl))) da_nil (fun _ => rfl)) (fun _ => rfl)) (fun _ => rfl) T.g__law_choice T.k__law_choice (by decide) (fun _ => rfl) (fun _ => rfl)) (fun _ => rfl))
  (dss_one (ds_ret (de_tup (da_cons (de_var (i := 3) (fun _ => rfl) (fun _ => .inl rfl) (by decide) (by decide)) (da_cons (de_var (i := 1) (fun _ => rfl) (fun _ => .inl rfl) (by decide) (by decide)) (da_cons (de_callP F T.P__law_choice (by decide) (da_cons (de_var (i := 0) (fun _ => rfl) (fun _ => .inl rfl) (by decide) (by decide)) (da_cons (de_lst false (da_cons de_int (da_cons de_int (da_cons de_int (da_cons de_int (da_cons de_int (da_cons de_int da_nil (fun _ => rfl)) (fun _ => rfl)) (fun _ => rfl)) (fun _ => rfl)) (fun _ => rfl)) (fun _ => rfl))) da_nil (fun _ => rfl)) (fun _ => rfl)) (fun _ => rfl) T.g__law_choice T.k__law_choice (by decide) (fun _ => rfl) (fun _ => rfl)) da_nil (fun _ => rfl)) (fun _ => rfl)) (fun _ => rfl))))))))
theorem B__law_sizes : FnB G 3 T.f__law_sizes T.d__law_sizes ["_law_source_here"] (m__law_sizes G) := FnB.of T.F__law_sizes sc__law_sizes T.e__law_sizes
theorem P__law_sizes : FnP G 3 T.f__law_sizes (mp__law_sizes G) := T.B__law_sizes.pos T.b__law_sizes
theorem k__law_wording : PySem.W.keepIn G.K (.ref T.f__law_wording) = true := T.F__law_wording.kp
theorem b__law_wording : Binds G.K T.d__law_wording ["_law_entries"] [] := T.F__law_wording.binds fun _ _ _ _ _ _ us hl => match us, hl with | [_], _ => rfl
theorem e__law_wording : ∀ E, DSs (FnX G 0 ["_law_entries", "_law_lines", "_law_first", "_law_second", "_law_number_here"] "_law_wording" (defScope s__law_wording) T.f__law_wording E) G (fun _ => E) (defBody s__law_wording) (c__law_wording G) := fun E => by
  have F := fnX_fam (G := G) (k := 0) (qual := "_law_wording") (f := T.f__law_wording) sc__law_wording E
  exact (dss_cons (ds_set F.toFamH (i := 1) (fun _ => rfl) (fun _ => .inl rfl) (fun _ => .inr rfl) (de_lst true da_nil) (fun _ => rfl))
  (dss_cons (ds_for F (di_seq F.toFamH (de_var (i := 0) (fun _ => rfl) (fun _ => .inl rfl) (by decide) (by decide))) (dg_tup F.toFamH (n := 2) (dgs_cons (dg_tup F.toFamH (n := 2) (dgs_cons (dg_name F.toFamH (i := 2) (fun _ => rfl) (fun _ => .inl rfl) (fun _ => .inr rfl)) (dgs_cons (dg_name F.toFamH (i := 3) (fun _ => rfl) (fun _ => .inl rfl) (fun _ => .inr rfl)) dgs_nil (fun _ => rfl)) (fun _ => rfl)) rfl (fun j t h => pg_or (pg_tup (F.calm j) h) (pg_lst (F.calm j) h))) (dgs_cons (dg_name F.toFamH (i := 4) (fun _ => rfl) (fun _ => .inl rfl) (fun _ => .inr rfl)) dgs_nil (fun _ => rfl)) (fun _ => rfl)) rfl (fun j t h => pg_or (pg_tup (F.calm j) h) (pg_lst (F.calm j) h))) (dss_one (ds_expr (de_meth F.toFamH PySem.F.plainAttrs_list PySem.F.slot_list_append PySem.F.type_list_append (fun _ => mt_append) snd_append (fun _ _ _ _ _ R r h => isL_ty R r h) (de_var (i := 1) (fun _ => rfl) (fun _ => .inl rfl) (by decide) (by decide)) (da_cons (de_op (fun _ => op_addU) (snd_add false) (de_op (fun _ => op_addU) (snd_add false) (de_op (fun _ => op_addU) (snd_add false) (de_op (fun _ => op_addU) (snd_add false) (de_callTy F.toFamH (fun _ => call_strU) snd_strU (da_cons (de_var (i := 2) (fun _ => rfl) (fun _ => .inl rfl) (by decide) (by decide)) da_nil (fun _ => rfl)) (fun _ => rfl) T.z_str rfl (by decide) (by decide) (fun _ => rfl) (fun _ => rfl)) de_str) (de_callTy F.toFamH (fun _ => call_strU) snd_strU (da_cons (de_var (i := 3) (fun _ => rfl) (fun _ => .inl rfl) (by decide) (by decide)) da_nil (fun _ => rfl)) (fun _ => rfl) T.z_str rfl (by decide) (by decide) (fun _ => rfl) (fun _ => rfl))) de_str) (de_callTy F.toFamH (fun _ => call_strU) snd_strU (da_cons (de_var (i := 4) (fun _ => rfl) (fun _ => .inl rfl) (by decide) (by decide)) da_nil (fun _ => rfl)) (fun _ => rfl) T.z_str rfl (by decide) (by decide) (fun _ => rfl) (fun _ => rfl))) da_nil (fun _ => rfl)) (fun _ => rfl) (fun _ => rfl) rfl (fun _ => rfl) (fun _ => rfl)) (fun _ => rfl))) owns_fn (fun _ _ => rfl))
  (dss_one (ds_ret (de_meth F.toFamH PySem.F.plainAttrs_str PySem.F.slot_str_join PySem.F.type_str_join (join_at F.toFamH) snd_join (fun _ _ _ _ _ R r h => isS_ty R r h) de_str (da_cons (de_var (i := 1) (fun _ => rfl) (fun _ => .inl rfl) (by decide) (by decide)) da_nil (fun _ => rfl)) (fun _ => rfl) (fun _ => rfl) rfl (fun _ => rfl) (fun _ => rfl))))))
theorem B__law_wording : FnB G 1 T.f__law_wording T.d__law_wording ["_law_entries"] (m__law_wording G) := FnB.of T.F__law_wording sc__law_wording T.e__law_wording
theorem P__law_wording : FnP G 1 T.f__law_wording (mp__law_wording G) := T.B__law_wording.pos T.b__law_wording
theorem k_is_between : PySem.W.keepIn G.K (.ref T.f_is_between) = true := T.F_is_between.kp
theorem b_is_between : Binds G.K T.d_is_between ["value", "least", "most"] [] := T.F_is_between.binds fun _ _ _ _ _ _ us hl => match us, hl with | [_, _, _], _ => rfl
theorem e_is_between : ∀ E, DSs (FnX G 0 ["value", "least", "most"] "is_between" (defScope s_is_between) T.f_is_between E) G (fun _ => E) (defBody s_is_between) (c_is_between G) := fun E => by
  have F := fnX_fam (G := G) (k := 0) (qual := "is_between") (f := T.f_is_between) sc_is_between E
  exact (dss_one (ds_ret (de_and (de_callB F.toFamH (fun _ => call_isi) snd_isi (da_cons (de_var (i := 0) (fun _ => rfl) (fun _ => .inl rfl) (by decide) (by decide)) (da_cons (de_ty F.toFamH (fun _ => rfl) T.z_int rfl (by decide) (by decide)) da_nil (fun _ => rfl)) (fun _ => rfl)) (fun _ => rfl) T.z_isinstance rfl (by decide) (by decide) (fun _ => rfl) (fun _ => rfl)) (de_and (de_not (de_callB F.toFamH (fun _ => call_isi) snd_isi (da_cons (de_var (i := 0) (fun _ => rfl) (fun _ => .inl rfl) (by decide) (by decide)) (da_cons (de_ty F.toFamH (fun _ => rfl) T.z_bool rfl (by decide) (by decide)) da_nil (fun _ => rfl)) (fun _ => rfl)) (fun _ => rfl) T.z_isinstance rfl (by decide) (by decide) (fun _ => rfl) (fun _ => rfl))) (de_one (de_chain (fun _ => op_le) (snd_cmp _) (fun _ => op_le) (snd_cmp _) (de_var (i := 1) (fun _ => rfl) (fun _ => .inl rfl) (by decide) (by decide)) (de_var (i := 0) (fun _ => rfl) (fun _ => .inl rfl) (by decide) (by decide)) (de_var (i := 2) (fun _ => rfl) (fun _ => .inl rfl) (by decide) (by decide)) rfl))))))
theorem B_is_between : FnB G 1 T.f_is_between T.d_is_between ["value", "least", "most"] (m_is_between G) := FnB.of T.F_is_between sc_is_between T.e_is_between
theorem P_is_between : FnP G 1 T.f_is_between (mp_is_between G) := T.B_is_between.pos T.b_is_between
theorem k_reduced_modulo : PySem.W.keepIn G.K (.ref T.f_reduced_modulo) = true := T.F_reduced_modulo.kp
theorem b_reduced_modulo : Binds G.K T.d_reduced_modulo ["number", "prime"] [] := T.F_reduced_modulo.binds fun _ _ _ _ _ _ us hl => match us, hl with | [_, _], _ => rfl
theorem e_reduced_modulo : ∀ E, DSs (FnX G 0 ["number", "prime", "rest"] "reduced_modulo" (defScope s_reduced_modulo) T.f_reduced_modulo E) G (fun _ => E) (defBody s_reduced_modulo) (c_reduced_modulo G) := fun E => by
  have F := fnX_fam (G := G) (k := 0) (qual := "reduced_modulo") (f := T.f_reduced_modulo) sc_reduced_modulo E
  exact (dss_cons (ds_set F.toFamH (i := 2) (fun _ => rfl) (fun _ => .inl rfl) (fun _ => .inr rfl) (de_op (fun _ => op_mod) snd_mod (de_var (i := 0) (fun _ => rfl) (fun _ => .inl rfl) (by decide) (by decide)) (de_var (i := 1) (fun _ => rfl) (fun _ => .inl rfl) (by decide) (by decide))) (fun _ => rfl))
  (dss_one (ds_ret (de_if (dt_cmp (fun _ => op_gt) (snd_cmp _) (de_op (fun _ => op_mulU) (snd_mul false) de_int (de_var (i := 2) (fun _ => rfl) (fun _ => .inl rfl) (by decide) (by decide))) (de_var (i := 1) (fun _ => rfl) (fun _ => .inl rfl) (by decide) (by decide)) rfl) (de_op (fun _ => op_sub) snd_sub (de_var (i := 2) (fun _ => rfl) (fun _ => .inl rfl) (by decide) (by decide)) (de_var (i := 1) (fun _ => rfl) (fun _ => .inl rfl) (by decide) (by decide))) (de_var (i := 2) (fun _ => rfl) (fun _ => .inl rfl) (by decide) (by decide))))))
theorem B_reduced_modulo : FnB G 1 T.f_reduced_modulo T.d_reduced_modulo ["number", "prime"] (m_reduced_modulo G) := FnB.of T.F_reduced_modulo sc_reduced_modulo T.e_reduced_modulo
theorem P_reduced_modulo : FnP G 1 T.f_reduced_modulo (mp_reduced_modulo G) := T.B_reduced_modulo.pos T.b_reduced_modulo
theorem k_power_of : PySem.W.keepIn G.K (.ref T.f_power_of) = true := T.F_power_of.kp
theorem b_power_of : Binds G.K T.d_power_of ["base", "exponent", "prime"] [] := T.F_power_of.binds fun _ _ _ _ _ _ us hl => match us, hl with | [_, _, _], _ => rfl
theorem e_power_of : ∀ E, DSs (FnX G 1 ["base", "exponent", "prime", "result", "square", "left"] "power_of" (defScope s_power_of) T.f_power_of E) G (fun _ => E) (defBody s_power_of) (c_power_of G) := fun E => by
  have F := fnX_fam (G := G) (k := 1) (qual := "power_of") (f := T.f_power_of) sc_power_of E
  exact (dss_cons (ds_par3 F (i := 3) (j := 4) (l := 5) (fun _ => rfl) (fun _ => rfl) (fun _ => rfl) (by decide) (by decide) (by decide) (fun _ => rfl) (fun _ => rfl) (fun _ => rfl) de_int (de_op (fun _ => op_mod) snd_mod (de_var (i := 0) (fun _ => rfl) (fun _ => .inl rfl) (by decide) (by decide)) (de_var (i := 2) (fun _ => rfl) (fun _ => .inl rfl) (by decide) (by decide))) (de_var (i := 1) (fun _ => rfl) (fun _ => .inl rfl) (by decide) (by decide)) (fun _ => rfl) (fun _ => rfl) (fun _ => rfl) (fun _ => rfl) (fun _ => rfl))
  (dss_cons (ds_while (dt_cmp (fun _ => op_gt) (snd_cmp _) (de_var (i := 5) (fun _ => rfl) (fun _ => .inl rfl) (by decide) (by decide)) de_int rfl) (dss_cons (ds_if (dt_cmp (eqD_at F.toFamH) snd_eq (de_op (fun _ => op_mod) snd_mod (de_var (i := 5) (fun _ => rfl) (fun _ => .inl rfl) (by decide) (by decide)) de_int) de_int rfl) (dss_one (ds_set F.toFamH (i := 3) (fun _ => rfl) (fun _ => .inl rfl) (fun _ => .inr rfl) (de_op (fun _ => op_mod) snd_mod (de_op (fun _ => op_mulU) (snd_mul false) (de_var (i := 3) (fun _ => rfl) (fun _ => .inl rfl) (by decide) (by decide)) (de_var (i := 4) (fun _ => rfl) (fun _ => .inl rfl) (by decide) (by decide))) (de_var (i := 2) (fun _ => rfl) (fun _ => .inl rfl) (by decide) (by decide))) (fun _ => rfl))) dss_nil)
  (dss_cons (ds_set F.toFamH (i := 4) (fun _ => rfl) (fun _ => .inl rfl) (fun _ => .inr rfl) (de_op (fun _ => op_mod) snd_mod (de_op (fun _ => op_mulU) (snd_mul false) (de_var (i := 4) (fun _ => rfl) (fun _ => .inl rfl) (by decide) (by decide)) (de_var (i := 4) (fun _ => rfl) (fun _ => .inl rfl) (by decide) (by decide))) (de_var (i := 2) (fun _ => rfl) (fun _ => .inl rfl) (by decide) (by decide))) (fun _ => rfl))
  (dss_one (ds_aug F.toFamH (i := 5) (fun _ => rfl) (fun _ => .inl rfl) (fun _ => .inr rfl) (fun _ => iop_fdivW) snd_fdiv de_int (fun j te h => ps_aug (F.nd j) rfl (.inl rfl) h iop_fdivW (.inr rfl)))))) owns_fn)
  (dss_one (ds_ret (de_callP F T.P_reduced_modulo (by decide) (da_cons (de_var (i := 3) (fun _ => rfl) (fun _ => .inl rfl) (by decide) (by decide)) (da_cons (de_var (i := 2) (fun _ => rfl) (fun _ => .inl rfl) (by decide) (by decide)) da_nil (fun _ => rfl)) (fun _ => rfl)) (fun _ => rfl) T.g_reduced_modulo T.k_reduced_modulo (by decide) (fun _ => rfl) (fun _ => rfl))))))
theorem B_power_of : FnB G 2 T.f_power_of T.d_power_of ["base", "exponent", "prime"] (m_power_of G) := FnB.of T.F_power_of sc_power_of T.e_power_of
theorem P_power_of : FnP G 2 T.f_power_of (mp_power_of G) := T.B_power_of.pos T.b_power_of
theorem k_is_probable : PySem.W.keepIn G.K (.ref T.f_is_probable) = true := T.F_is_probable.kp
theorem b_is_probable : Binds G.K T.d_is_probable ["number", "base"] [] := T.F_is_probable.binds fun _ _ _ _ _ _ us hl => match us, hl with | [_, _], _ => rfl
theorem e_is_probable : ∀ E, DSs (FnX G 2 ["number", "base", "odd", "twos", "power", "turn"] "is_probable" (defScope s_is_probable) T.f_is_probable E) G (fun _ => E) (defBody s_is_probable) (c_is_probable G) := fun E => by
  have F := fnX_fam (G := G) (k := 2) (qual := "is_probable") (f := T.f_is_probable) sc_is_probable E
  exact (dss_cons (ds_par F (i := 2) (j := 3) (fun _ => rfl) (fun _ => rfl) (by decide) (fun _ => rfl) (fun _ => rfl) (de_op (fun _ => op_sub) snd_sub (de_var (i := 0) (fun _ => rfl) (fun _ => .inl rfl) (by decide) (by decide)) de_int) de_int (fun _ => rfl) (fun _ => rfl) (fun _ => rfl) (fun _ => rfl))
  (dss_cons (ds_while (dt_cmp (eqD_at F.toFamH) snd_eq (de_op (fun _ => op_mod) snd_mod (de_var (i := 2) (fun _ => rfl) (fun _ => .inl rfl) (by decide) (by decide)) de_int) de_int rfl) (dss_one (ds_par F (i := 2) (j := 3) (fun _ => rfl) (fun _ => rfl) (by decide) (fun _ => rfl) (fun _ => rfl) (de_op (fun _ => op_fdivW) snd_fdiv (de_var (i := 2) (fun _ => rfl) (fun _ => .inl rfl) (by decide) (by decide)) de_int) (de_op (fun _ => op_addU) (snd_add false) (de_var (i := 3) (fun _ => rfl) (fun _ => .inl rfl) (by decide) (by decide)) de_int) (fun _ => rfl) (fun _ => rfl) (fun _ => rfl) (fun _ => rfl))) owns_fn)
  (dss_cons (ds_set F.toFamH (i := 4) (fun _ => rfl) (fun _ => .inl rfl) (fun _ => .inr rfl) (de_callP F T.P_power_of (by decide) (da_cons (de_var (i := 1) (fun _ => rfl) (fun _ => .inl rfl) (by decide) (by decide)) (da_cons (de_var (i := 2) (fun _ => rfl) (fun _ => .inl rfl) (by decide) (by decide)) (da_cons (de_var (i := 0) (fun _ => rfl) (fun _ => .inl rfl) (by decide) (by decide)) da_nil (fun _ => rfl)) (fun _ => rfl)) (fun _ => rfl)) (fun _ => rfl) T.g_power_of T.k_power_of (by decide) (fun _ => rfl) (fun _ => rfl)) (fun _ => rfl))
  (dss_cons (ds_if (dt_cmp (fun _ => op_in_seq) (snd_in false) (de_var (i := 4) (fun _ => rfl) (fun _ => .inl rfl) (by decide) (by decide)) (de_tup (da_cons de_int (da_cons (de_un (fun _ => un_neg) snd_neg de_int) da_nil (fun _ => rfl)) (fun _ => rfl))) rfl) (dss_one (ds_ret de_bl)) dss_nil)
  (dss_cons (ds_for F (di_rng1 F.toFamH (da_cons (de_op (fun _ => op_sub) snd_sub (de_var (i := 3) (fun _ => rfl) (fun _ => .inl rfl) (by decide) (by decide)) de_int) da_nil (fun _ => rfl)) (fun _ => rfl) T.z_range (fun _ => rfl)) (dg_name F.toFamH (i := 5) (fun _ => rfl) (fun _ => .inl rfl) (fun _ => .inr rfl)) (dss_cons (ds_set F.toFamH (i := 4) (fun _ => rfl) (fun _ => .inl rfl) (fun _ => .inr rfl) (de_callP F T.P_reduced_modulo (by decide) (da_cons (de_op (fun _ => op_mulU) (snd_mul false) (de_var (i := 4) (fun _ => rfl) (fun _ => .inl rfl) (by decide) (by decide)) (de_var (i := 4) (fun _ => rfl) (fun _ => .inl rfl) (by decide) (by decide))) (da_cons (de_var (i := 0) (fun _ => rfl) (fun _ => .inl rfl) (by decide) (by decide)) da_nil (fun _ => rfl)) (fun _ => rfl)) (fun _ => rfl) T.g_reduced_modulo T.k_reduced_modulo (by decide) (fun _ => rfl) (fun _ => rfl)) (fun _ => rfl))
  (dss_one (ds_if (dt_cmp (eqD_at F.toFamH) snd_eq (de_var (i := 4) (fun _ => rfl) (fun _ => .inl rfl) (by decide) (by decide)) (de_un (fun _ => un_neg) snd_neg de_int) rfl) (dss_one (ds_ret de_bl)) dss_nil))) owns_fn (fun _ _ => rfl))
  (dss_one (ds_ret de_bl)))))))
theorem B_is_probable : FnB G 3 T.f_is_probable T.d_is_probable ["number", "base"] (m_is_probable G) := FnB.of T.F_is_probable sc_is_probable T.e_is_probable
theorem P_is_probable : FnP G 3 T.f_is_probable (mp_is_probable G) := T.B_is_probable.pos T.b_is_probable
theorem k_is_odd_prime : PySem.W.keepIn G.K (.ref T.f_is_odd_prime) = true := T.F_is_odd_prime.kp
theorem b_is_odd_prime : Binds G.K T.d_is_odd_prime ["number"] [] := T.F_is_odd_prime.binds fun _ _ _ _ _ _ us hl => match us, hl with | [_], _ => rfl
theorem e_is_odd_prime : ∀ E, DSs (FnX G 3 ["number", "base"] "is_odd_prime" (defScope s_is_odd_prime) T.f_is_odd_prime E) G (fun _ => E) (defBody s_is_odd_prime) (c_is_odd_prime G) := fun E => by
  have F := fnX_fam (G := G) (k := 3) (qual := "is_odd_prime") (f := T.f_is_odd_prime) sc_is_odd_prime E
  exact (dss_cons (ds_for F (di_seq F.toFamH (T.c_BASES F (fun _ => rfl))) (dg_name F.toFamH (i := 1) (fun _ => rfl) (fun _ => .inl rfl) (fun _ => .inr rfl)) (dss_one (ds_if (dt_cmp (eqD_at F.toFamH) snd_eq (de_op (fun _ => op_mod) snd_mod (de_var (i := 0) (fun _ => rfl) (fun _ => .inr (.inl rfl)) (by decide) (by decide)) (de_var (i := 1) (fun _ => rfl) (fun _ => .inl rfl) (by decide) (by decide))) de_int rfl) (dss_one (ds_ret (de_cmp (eqD_at F.toFamH) snd_eq (de_var (i := 0) (fun _ => rfl) (fun _ => .inr (.inl rfl)) (by decide) (by decide)) (de_var (i := 1) (fun _ => rfl) (fun _ => .inl rfl) (by decide) (by decide)) rfl))) dss_nil)) owns_fn (fun _ _ => rfl))
  (dss_one (ds_ret (de_callB F.toFamH (cr_allC F) snd_all (da_cons (de_lc F (own := [("base", 1)]) (di_seq F.toFamH (T.c_BASES F (fun _ => rfl))) (fun _ => blkOk_by (by kernel_rfl)) (dg_name (F.blk _).toFamH (i := 1) (fun _ => rfl) (fun _ => .inl rfl) (fun _ => .inr rfl)) dts_nil (de_callP (F.blk _) T.P_is_probable (by decide) (da_cons (de_var (i := 0) (fun _ => rfl) (fun _ => .inr (.inl rfl)) (by decide) (by decide)) (da_cons (de_var (i := 1) (fun _ => rfl) (fun _ => .inl rfl) (by decide) (by decide)) da_nil (fun _ => rfl)) (fun _ => rfl)) (fun _ => rfl) T.g_is_probable T.k_is_probable (by decide) (fun _ => rfl) (fun _ => rfl)) (by decide) (fun _ _ => rfl)) da_nil (fun _ => rfl)) (fun _ => rfl) T.z_all rfl (by decide) (by decide) (fun _ => rfl) (fun _ => rfl)))))
theorem B_is_odd_prime : FnB G 4 T.f_is_odd_prime T.d_is_odd_prime ["number"] (m_is_odd_prime G) := FnB.of T.F_is_odd_prime sc_is_odd_prime T.e_is_odd_prime
theorem P_is_odd_prime : FnP G 4 T.f_is_odd_prime (mp_is_odd_prime G) := T.B_is_odd_prime.pos T.b_is_odd_prime
theorem b_Scheme_is_prime : Binds G.K T.d_Scheme_is_prime ["value"] [] := T.F_Scheme_is_prime.binds fun _ _ _ _ _ _ us hl => match us, hl with | [_], _ => rfl
theorem e_Scheme_is_prime : ∀ E, DSs (FnX G 4 ["value"] "Scheme.is_prime" (defScope s_Scheme_is_prime) T.f_Scheme_is_prime E) G (fun _ => E) (defBody s_Scheme_is_prime) (c_Scheme_is_prime G) := fun E => by
  have F := fnX_fam (G := G) (k := 4) (qual := "Scheme.is_prime") (f := T.f_Scheme_is_prime) sc_Scheme_is_prime E
  exact (dss_one (ds_ret (de_and (de_callP F T.P_is_between (by decide) (da_cons (de_var (i := 0) (fun _ => rfl) (fun _ => .inl rfl) (by decide) (by decide)) (da_cons de_int (da_cons (de_cval F.toFamH T.rd_Scheme T.v_Scheme_LARGEST_PRIME (fun _ _ _ => .int _) (de_con F.toFamH (fun _ => rfl) T.g_Scheme (by decide)) (fun _ => rfl)) da_nil (fun _ => rfl)) (fun _ => rfl)) (fun _ => rfl)) (fun _ => rfl) T.g_is_between T.k_is_between (by decide) (fun _ => rfl) (fun _ => rfl)) (de_one (de_callP F T.P_is_odd_prime (by decide) (da_cons (de_var (i := 0) (fun _ => rfl) (fun _ => .inl rfl) (by decide) (by decide)) da_nil (fun _ => rfl)) (fun _ => rfl) T.g_is_odd_prime T.k_is_odd_prime (by decide) (fun _ => rfl) (fun _ => rfl))))))
theorem B_Scheme_is_prime : FnB G 5 T.f_Scheme_is_prime T.d_Scheme_is_prime ["value"] (m_Scheme_is_prime G) := FnB.of T.F_Scheme_is_prime sc_Scheme_is_prime T.e_Scheme_is_prime
theorem P_Scheme_is_prime : FnP G 5 T.f_Scheme_is_prime (mp_Scheme_is_prime G) := T.B_Scheme_is_prime.pos T.b_Scheme_is_prime
theorem b_Scheme__init_ : Binds G.K T.d_Scheme__init_ ["self", "prime", "accounts", "length"] [] := T.F_Scheme__init_.binds fun _ _ _ _ _ _ us hl => match us, hl with | [_, _, _, _], _ => rfl
theorem e_Scheme__init_ : ∀ E, DSs (FnX G 5 ["self", "prime", "accounts", "length"] "Scheme.__init__" (defScope s_Scheme__init_) T.f_Scheme__init_ E) G (fun _ => E) (defBody s_Scheme__init_) (c_Scheme__init_ G) := fun E => by
  have F := fnX_fam (G := G) (k := 5) (qual := "Scheme.__init__") (f := T.f_Scheme__init_) sc_Scheme__init_ E
  exact (dss_cons (ds_if (dt_not (dt_val (de_smeth F T.P_Scheme_is_prime (by decide) T.rd_Scheme T.st_Scheme_is_prime (de_con F.toFamH (fun _ => rfl) T.g_Scheme (by decide)) (da_cons (de_var (i := 1) (fun _ => rfl) (fun _ => .inl rfl) (by decide) (by decide)) da_nil (fun _ => rfl)) (fun _ => rfl) (fun _ => rfl) (fun _ => rfl)) (fun _ _ => rfl))) (dss_one ds_never) dss_nil)
  (dss_cons (ds_if (dt_w (dw_or (dt_not (dt_val (de_callP F T.P_is_between (by decide) (da_cons (de_var (i := 2) (fun _ => rfl) (fun _ => .inl rfl) (by decide) (by decide)) (da_cons (T.c_LEAST_ACCOUNTS F (fun _ => rfl)) (da_cons (de_cval F.toFamH T.rd_Scheme T.v_Scheme_MOST_ACCOUNTS (fun _ _ _ => .int _) (de_con F.toFamH (fun _ => rfl) T.g_Scheme (by decide)) (fun _ => rfl)) da_nil (fun _ => rfl)) (fun _ => rfl)) (fun _ => rfl)) (fun _ => rfl) T.g_is_between T.k_is_between (by decide) (fun _ => rfl) (fun _ => rfl)) (fun _ _ => rfl))) (dw_or1 (dt_cmp (fun _ => op_ge) (snd_cmp _) (de_op (fun _ => op_mulU) (snd_mul false) (de_var (i := 2) (fun _ => rfl) (fun _ => .inl rfl) (by decide) (by decide)) (de_var (i := 2) (fun _ => rfl) (fun _ => .inl rfl) (by decide) (by decide))) (de_var (i := 1) (fun _ => rfl) (fun _ => .inl rfl) (by decide) (by decide)) rfl) rfl))) (dss_one ds_never) dss_nil)
  (dss_cons (ds_if (dt_not (dt_val (de_callP F T.P_is_between (by decide) (da_cons (de_var (i := 3) (fun _ => rfl) (fun _ => .inl rfl) (by decide) (by decide)) (da_cons de_int (da_cons (de_cval F.toFamH T.rd_Scheme T.v_Scheme_MOST_NUMBERS (fun _ _ _ => .int _) (de_con F.toFamH (fun _ => rfl) T.g_Scheme (by decide)) (fun _ => rfl)) da_nil (fun _ => rfl)) (fun _ => rfl)) (fun _ => rfl)) (fun _ => rfl) T.g_is_between T.k_is_between (by decide) (fun _ => rfl) (fun _ => rfl)) (fun _ _ => rfl))) (dss_one ds_never) dss_nil)
  (dss_cons (ds_fld F.toFamH (c := 0) (i := 0) T.cl_Scheme T.n_Scheme_prime_used (by rw [T.fn_Scheme]; rfl) (by rw [T.fn_Scheme]; decide +kernel) (de_var (i := 1) (fun _ => rfl) (fun _ => .inl rfl) (by decide) (by decide)) (de_var (i := 0) (fun _ => rfl) (fun _ => .inl rfl) (by decide) (by decide)) (fun _ => rfl))
  (dss_cons (ds_fld F.toFamH (c := 0) (i := 1) T.cl_Scheme T.n_Scheme_accounts_used (by rw [T.fn_Scheme]; rfl) (by rw [T.fn_Scheme]; decide +kernel) (de_var (i := 2) (fun _ => rfl) (fun _ => .inl rfl) (by decide) (by decide)) (de_var (i := 0) (fun _ => rfl) (fun _ => .inl rfl) (by decide) (by decide)) (fun _ => rfl))
  (dss_one (ds_fld F.toFamH (c := 0) (i := 2) T.cl_Scheme T.n_Scheme_length_used (by rw [T.fn_Scheme]; rfl) (by rw [T.fn_Scheme]; decide +kernel) (de_var (i := 3) (fun _ => rfl) (fun _ => .inl rfl) (by decide) (by decide)) (de_var (i := 0) (fun _ => rfl) (fun _ => .inl rfl) (by decide) (by decide)) (fun _ => rfl))))))))
theorem B_Scheme__init_ : FnB G 6 T.f_Scheme__init_ T.d_Scheme__init_ ["self", "prime", "accounts", "length"] (m_Scheme__init_ G) := FnB.of T.F_Scheme__init_ sc_Scheme__init_ T.e_Scheme__init_
theorem P_Scheme__init_ : FnP G 6 T.f_Scheme__init_ (mp_Scheme__init_ G) := T.B_Scheme__init_.pos T.b_Scheme__init_
theorem k__law_any_table : PySem.W.keepIn G.K (.ref T.f__law_any_table) = true := T.F__law_any_table.kp
theorem b__law_any_table : Binds G.K T.d__law_any_table ["_law_source_here", "_law_sizes_here"] [] := T.F__law_any_table.binds fun _ _ _ _ _ _ us hl => match us, hl with | [_, _], _ => rfl
theorem e__law_any_table : ∀ E, DSs (FnX G 2 ["_law_source_here", "_law_sizes_here", "_law_chance", "_law_half", "_law_found", "_law_first", "_law_second", "_law_some"] "_law_any_table" (defScope s__law_any_table) T.f__law_any_table E) G (fun _ => E) (defBody s__law_any_table) (c__law_any_table G) := fun E => by
  have F := fnX_fam (G := G) (k := 2) (qual := "_law_any_table") (f := T.f__law_any_table) sc__law_any_table E
  exact (dss_cons (ds_par3 F (i := 2) (j := 3) (l := 4) (fun _ => rfl) (fun _ => rfl) (fun _ => rfl) (by decide) (by decide) (by decide) (fun _ => rfl) (fun _ => rfl) (fun _ => rfl) (de_op (fun _ => op_addU) (snd_add false) de_int (de_callP F T.P__law_random (by decide) (da_cons (de_var (i := 0) (fun _ => rfl) (fun _ => .inl rfl) (by decide) (by decide)) (da_cons de_int da_nil (fun _ => rfl)) (fun _ => rfl)) (fun _ => rfl) T.g__law_random T.k__law_random (by decide) (fun _ => rfl) (fun _ => rfl))) (de_op (fun _ => op_fdivW) snd_fdiv (de_ix F.toFamH (de_var (i := 1) (fun _ => rfl) (fun _ => .inl rfl) (by decide) (by decide)) de_int (fun _ _ => rfl)) de_int) (de_lst true da_nil) (fun _ => rfl) (fun _ => rfl) (fun _ => rfl) (fun _ => rfl) (fun _ => rfl))
  (dss_cons (ds_for F (di_rng1 F.toFamH (da_cons (de_ix F.toFamH (de_var (i := 1) (fun _ => rfl) (fun _ => .inl rfl) (by decide) (by decide)) de_int (fun _ _ => rfl)) da_nil (fun _ => rfl)) (fun _ => rfl) T.z_range (fun _ => rfl)) (dg_name F.toFamH (i := 5) (fun _ => rfl) (fun _ => .inl rfl) (fun _ => .inr rfl)) (dss_one (ds_for F (di_rng2 F.toFamH (da_cons (de_op (fun _ => op_addU) (snd_add false) (de_var (i := 5) (fun _ => rfl) (fun _ => .inl rfl) (by decide) (by decide)) de_int) (da_cons (de_ix F.toFamH (de_var (i := 1) (fun _ => rfl) (fun _ => .inl rfl) (by decide) (by decide)) de_int (fun _ _ => rfl)) da_nil (fun _ => rfl)) (fun _ => rfl)) (fun _ => rfl) T.z_range (fun _ => rfl) (fun _ => rfl)) (dg_name F.toFamH (i := 6) (fun _ => rfl) (fun _ => .inl rfl) (fun _ => .inr rfl)) (dss_cons (ds_set F.toFamH (i := 7) (fun _ => rfl) (fun _ => .inl rfl) (fun _ => .inr rfl) (de_lst false (da_cons de_int (da_cons (de_un (fun _ => un_neg) snd_neg de_int) (da_cons (de_var (i := 3) (fun _ => rfl) (fun _ => .inl rfl) (by decide) (by decide)) (da_cons (de_op (fun _ => op_sub) snd_sub de_int (de_var (i := 3) (fun _ => rfl) (fun _ => .inl rfl) (by decide) (by decide))) (da_cons (de_op (fun _ => op_addU) (snd_add false) de_int (de_callP F T.P__law_random (by decide) (da_cons (de_var (i := 0) (fun _ => rfl) (fun _ => .inl rfl) (by decide) (by decide)) (da_cons (de_var (i := 3) (fun _ => rfl) (fun _ => .inl rfl) (by decide) (by decide)) da_nil (fun _ => rfl)) (fun _ => rfl)) (fun _ => rfl) T.g__law_random T.k__law_random (by decide) (fun _ => rfl) (fun _ => rfl))) (da_cons (de_op (fun _ => op_sub) snd_sub (de_un (fun _ => un_neg) snd_neg de_int) (de_callP F T.P__law_random (by decide) (da_cons (de_var (i := 0) (fun _ => rfl) (fun _ => .inl rfl) (by decide) (by decide)) (da_cons (de_var (i := 3) (fun _ => rfl) (fun _ => .inl rfl) (by decide) (by decide)) da_nil (fun _ => rfl)) (fun _ => rfl)) (fun _ => rfl) T.g__law_random T.k__law_random (by decide) (fun _ => rfl) (fun _ => rfl))) da_nil (fun _ => rfl)) (fun _ => rfl)) (fun _ => rfl)) (fun _ => rfl)) (fun _ => rfl)) (fun _ => rfl))) (fun _ => rfl))
  (dss_one (ds_if (dt_w (dw_and (dt_cmp (fun _ => op_lt) (snd_cmp _) (de_callP F T.P__law_random (by decide) (da_cons (de_var (i := 0) (fun _ => rfl) (fun _ => .inl rfl) (by decide) (by decide)) (da_cons de_int da_nil (fun _ => rfl)) (fun _ => rfl)) (fun _ => rfl) T.g__law_random T.k__law_random (by decide) (fun _ => rfl) (fun _ => rfl)) (de_var (i := 2) (fun _ => rfl) (fun _ => .inl rfl) (by decide) (by decide)) rfl) (dw_and1 (dt_cmp (fun _ => op_lt) (snd_cmp _) (de_callB F.toFamH (fun _ => call_lenU) snd_len (da_cons (de_var (i := 4) (fun _ => rfl) (fun _ => .inl rfl) (by decide) (by decide)) da_nil (fun _ => rfl)) (fun _ => rfl) T.z_len rfl (by decide) (by decide) (fun _ => rfl) (fun _ => rfl)) de_int rfl) rfl))) (dss_one (ds_expr (de_meth F.toFamH PySem.F.plainAttrs_list PySem.F.slot_list_append PySem.F.type_list_append (fun _ => mt_append) snd_append (fun _ _ _ _ _ R r h => isL_ty R r h) (de_var (i := 4) (fun _ => rfl) (fun _ => .inl rfl) (by decide) (by decide)) (da_cons (de_tup (da_cons (de_tup (da_cons (de_var (i := 5) (fun _ => rfl) (fun _ => .inl rfl) (by decide) (by decide)) (da_cons (de_var (i := 6) (fun _ => rfl) (fun _ => .inl rfl) (by decide) (by decide)) da_nil (fun _ => rfl)) (fun _ => rfl))) (da_cons (de_callP F T.P__law_choice (by decide) (da_cons (de_var (i := 0) (fun _ => rfl) (fun _ => .inl rfl) (by decide) (by decide)) (da_cons (de_var (i := 7) (fun _ => rfl) (fun _ => .inl rfl) (by decide) (by decide)) da_nil (fun _ => rfl)) (fun _ => rfl)) (fun _ => rfl) T.g__law_choice T.k__law_choice (by decide) (fun _ => rfl) (fun _ => rfl)) da_nil (fun _ => rfl)) (fun _ => rfl))) da_nil (fun _ => rfl)) (fun _ => rfl) (fun _ => rfl) rfl (fun _ => rfl) (fun _ => rfl)) (fun _ => rfl))) dss_nil))) owns_fn (fun _ _ => rfl))) owns_fn (fun _ _ => rfl))
  (dss_one (ds_ret (de_callTy F.toFamH (fun _ => call_tuple_of) snd_tuple (da_cons (de_if (dt_cmp (fun _ => op_gt) (snd_cmp _) (de_callP F T.P__law_random (by decide) (da_cons (de_var (i := 0) (fun _ => rfl) (fun _ => .inl rfl) (by decide) (by decide)) (da_cons de_int da_nil (fun _ => rfl)) (fun _ => rfl)) (fun _ => rfl) T.g__law_random T.k__law_random (by decide) (fun _ => rfl) (fun _ => rfl)) de_int rfl) (de_var (i := 4) (fun _ => rfl) (fun _ => .inl rfl) (by decide) (by decide)) (de_lst false da_nil)) da_nil (fun _ => rfl)) (fun _ => rfl) T.z_tuple rfl (by decide) (by decide) (fun _ => rfl) (fun _ => rfl))))))
theorem B__law_any_table : FnB G 3 T.f__law_any_table T.d__law_any_table ["_law_source_here", "_law_sizes_here"] (m__law_any_table G) := FnB.of T.F__law_any_table sc__law_any_table T.e__law_any_table
theorem P__law_any_table : FnP G 3 T.f__law_any_table (mp__law_any_table G) := T.B__law_any_table.pos T.b__law_any_table
theorem k__law_odd_line : PySem.W.keepIn G.K (.ref T.f__law_odd_line) = true := T.F__law_odd_line.kp
theorem b__law_odd_line : Binds G.K T.d__law_odd_line ["_law_source_here", "_law_sizes_here"] [] := T.F__law_odd_line.binds fun _ _ _ _ _ _ us hl => match us, hl with | [_, _], _ => rfl
theorem e__law_odd_line : ∀ E, DSs (FnX G 2 ["_law_source_here", "_law_sizes_here", "_law_half", "_law_last", "_law_words", "_law_number_here", "_law_k"] "_law_odd_line" (defScope s__law_odd_line) T.f__law_odd_line E) G (fun _ => E) (defBody s__law_odd_line) (c__law_odd_line G) := fun E => by
  have F := fnX_fam (G := G) (k := 2) (qual := "_law_odd_line") (f := T.f__law_odd_line) sc__law_odd_line E
  exact (dss_cons (ds_par F (i := 2) (j := 3) (fun _ => rfl) (fun _ => rfl) (by decide) (fun _ => rfl) (fun _ => rfl) (de_op (fun _ => op_fdivW) snd_fdiv (de_ix F.toFamH (de_var (i := 1) (fun _ => rfl) (fun _ => .inl rfl) (by decide) (by decide)) de_int (fun _ _ => rfl)) de_int) (de_op (fun _ => op_sub) snd_sub (de_ix F.toFamH (de_var (i := 1) (fun _ => rfl) (fun _ => .inl rfl) (by decide) (by decide)) de_int (fun _ _ => rfl)) de_int) (fun _ => rfl) (fun _ => rfl) (fun _ => rfl) (fun _ => rfl))
  (dss_cons (ds_set F.toFamH (i := 4) (fun _ => rfl) (fun _ => .inr rfl) (fun _ => .inl rfl) (de_lc F (own := [("_law_number_here", 5)]) (di_seq F.toFamH (de_tup (da_cons de_int (da_cons (de_op (fun _ => op_sub) snd_sub (de_var (i := 3) (fun _ => rfl) (fun _ => .inl rfl) (by decide) (by decide)) de_int) (da_cons (de_var (i := 3) (fun _ => rfl) (fun _ => .inl rfl) (by decide) (by decide)) (da_cons (de_op (fun _ => op_addU) (snd_add false) (de_var (i := 3) (fun _ => rfl) (fun _ => .inl rfl) (by decide) (by decide)) de_int) (da_cons (de_un (fun _ => un_neg) snd_neg de_int) (da_cons (de_var (i := 2) (fun _ => rfl) (fun _ => .inl rfl) (by decide) (by decide)) (da_cons (de_op (fun _ => op_addU) (snd_add false) (de_var (i := 2) (fun _ => rfl) (fun _ => .inl rfl) (by decide) (by decide)) de_int) (da_cons (de_op (fun _ => op_sub) snd_sub de_int (de_var (i := 2) (fun _ => rfl) (fun _ => .inl rfl) (by decide) (by decide))) (da_cons (de_op (fun _ => op_sub) snd_sub (de_op (fun _ => op_sub) snd_sub de_int (de_var (i := 2) (fun _ => rfl) (fun _ => .inl rfl) (by decide) (by decide))) de_int) (da_cons de_int da_nil (fun _ => rfl)) (fun _ => rfl)) (fun _ => rfl)) (fun _ => rfl)) (fun _ => rfl)) (fun _ => rfl)) (fun _ => rfl)) (fun _ => rfl)) (fun _ => rfl)) (fun _ => rfl)))) (fun _ => blkOk_by (by kernel_rfl)) (dg_name (F.blk _).toFamH (i := 5) (fun _ => rfl) (fun _ => .inl rfl) (fun _ => .inr rfl)) dts_nil (de_callTy (F.blk _).toFamH (fun _ => call_strU) snd_strU (da_cons (de_var (i := 5) (fun _ => rfl) (fun _ => .inl rfl) (by decide) (by decide)) da_nil (fun _ => rfl)) (fun _ => rfl) T.z_str rfl (by decide) (by decide) (fun _ => rfl) (fun _ => rfl)) (by decide) (fun _ _ => rfl)) (fun _ => rfl))
  (dss_cons (ds_set F.toFamH (i := 4) (fun _ => rfl) (fun _ => .inr rfl) (fun _ => .inl rfl) (de_op (fun _ => op_addU) (snd_add false) (de_var (i := 4) (fun _ => rfl) (fun _ => .inr (.inl rfl)) (by decide) (by decide)) (de_lst false (da_cons de_str (da_cons de_str (da_cons de_str (da_cons de_str (da_cons de_str (da_cons de_str (da_cons de_str (da_cons de_str (da_cons (de_op (fun _ => op_mulS) snd_mulS de_str de_int) da_nil (fun _ => rfl)) (fun _ => rfl)) (fun _ => rfl)) (fun _ => rfl)) (fun _ => rfl)) (fun _ => rfl)) (fun _ => rfl)) (fun _ => rfl)) (fun _ => rfl)))) (fun _ => rfl))
  (dss_one (ds_ret (de_meth F.toFamH PySem.F.plainAttrs_str PySem.F.slot_str_join PySem.F.type_str_join (join_at F.toFamH) snd_join (fun _ _ _ _ _ R r h => isS_ty R r h) de_str (da_cons (de_lc F (own := [("_law_k", 6)]) (di_rng1 F.toFamH (da_cons (de_callP F T.P__law_choice (by decide) (da_cons (de_var (i := 0) (fun _ => rfl) (fun _ => .inr (.inl rfl)) (by decide) (by decide)) (da_cons (de_lst false (da_cons de_int (da_cons de_int (da_cons de_int (da_cons de_int (da_cons de_int (da_cons de_int da_nil (fun _ => rfl)) (fun _ => rfl)) (fun _ => rfl)) (fun _ => rfl)) (fun _ => rfl)) (fun _ => rfl))) da_nil (fun _ => rfl)) (fun _ => rfl)) (fun _ => rfl) T.g__law_choice T.k__law_choice (by decide) (fun _ => rfl) (fun _ => rfl)) da_nil (fun _ => rfl)) (fun _ => rfl) T.z_range (fun _ => rfl)) (fun _ => blkOk_by (by kernel_rfl)) (dg_name (F.blk _).toFamH (i := 6) (fun _ => rfl) (fun _ => .inl rfl) (fun _ => .inr rfl)) dts_nil (de_callP (F.blk _) T.P__law_choice (by decide) (da_cons (de_var (i := 0) (fun _ => rfl) (fun _ => .inr (.inl rfl)) (by decide) (by decide)) (da_cons (de_var (i := 4) (fun _ => rfl) (fun _ => .inr (.inl rfl)) (by decide) (by decide)) da_nil (fun _ => rfl)) (fun _ => rfl)) (fun _ => rfl) T.g__law_choice T.k__law_choice (by decide) (fun _ => rfl) (fun _ => rfl)) (by decide) (fun _ _ => rfl)) da_nil (fun _ => rfl)) (fun _ => rfl) (fun _ => rfl) rfl (fun _ => rfl) (fun _ => rfl)))))))
theorem B__law_odd_line : FnB G 3 T.f__law_odd_line T.d__law_odd_line ["_law_source_here", "_law_sizes_here"] (m__law_odd_line G) := FnB.of T.F__law_odd_line sc__law_odd_line T.e__law_odd_line
theorem P__law_odd_line : FnP G 3 T.f__law_odd_line (mp__law_odd_line G) := T.B__law_odd_line.pos T.b__law_odd_line
theorem k__law_bent : PySem.W.keepIn G.K (.ref T.f__law_bent) = true := T.F__law_bent.kp
theorem b__law_bent : Binds G.K T.d__law_bent ["_law_source_here", "_law_sizes_here", "_law_wording_here"] [] := T.F__law_bent.binds fun _ _ _ _ _ _ us hl => match us, hl with | [_, _, _], _ => rfl
theorem e__law_bent : ∀ E, DSs (FnX G 3 ["_law_source_here", "_law_sizes_here", "_law_wording_here", "_law_lines", "_law_at", "_law_other", "_law_odd", "_law_way", "_law_some", "_law_sign"] "_law_bent" (defScope s__law_bent) T.f__law_bent E) G (fun _ => E) (defBody s__law_bent) (c__law_bent G) := fun E => by
  have F := fnX_fam (G := G) (k := 3) (qual := "_law_bent") (f := T.f__law_bent) sc__law_bent E
  exact (dss_cons (ds_set F.toFamH (i := 3) (fun _ => rfl) (fun _ => .inl rfl) (fun _ => .inr rfl) (de_meth F.toFamH PySem.F.plainAttrs_str PySem.F.slot_str_split PySem.F.type_str_split (fun _ => mt_split) (snd_split false) (fun _ _ _ _ _ R r h => isS_ty R r h) (de_var (i := 2) (fun _ => rfl) (fun _ => .inl rfl) (by decide) (by decide)) (da_cons de_str da_nil (fun _ => rfl)) (fun _ => rfl) (fun _ => rfl) rfl (fun _ => rfl) (fun _ => rfl)) (fun _ => rfl))
  (dss_cons (ds_par F (i := 4) (j := 5) (fun _ => rfl) (fun _ => rfl) (by decide) (fun _ => rfl) (fun _ => rfl) (de_callP F T.P__law_random (by decide) (da_cons (de_var (i := 0) (fun _ => rfl) (fun _ => .inl rfl) (by decide) (by decide)) (da_cons (de_callB F.toFamH (fun _ => call_lenU) snd_len (da_cons (de_var (i := 3) (fun _ => rfl) (fun _ => .inl rfl) (by decide) (by decide)) da_nil (fun _ => rfl)) (fun _ => rfl) T.z_len rfl (by decide) (by decide) (fun _ => rfl) (fun _ => rfl)) da_nil (fun _ => rfl)) (fun _ => rfl)) (fun _ => rfl) T.g__law_random T.k__law_random (by decide) (fun _ => rfl) (fun _ => rfl)) (de_callP F T.P__law_random (by decide) (da_cons (de_var (i := 0) (fun _ => rfl) (fun _ => .inl rfl) (by decide) (by decide)) (da_cons (de_callB F.toFamH (fun _ => call_lenU) snd_len (da_cons (de_var (i := 3) (fun _ => rfl) (fun _ => .inl rfl) (by decide) (by decide)) da_nil (fun _ => rfl)) (fun _ => rfl) T.z_len rfl (by decide) (by decide) (fun _ => rfl) (fun _ => rfl)) da_nil (fun _ => rfl)) (fun _ => rfl)) (fun _ => rfl) T.g__law_random T.k__law_random (by decide) (fun _ => rfl) (fun _ => rfl)) (fun _ => rfl) (fun _ => rfl) (fun _ => rfl) (fun _ => rfl))
  (dss_cons (ds_par F (i := 6) (j := 7) (fun _ => rfl) (fun _ => rfl) (by decide) (fun _ => rfl) (fun _ => rfl) (de_callP F T.P__law_odd_line (by decide) (da_cons (de_var (i := 0) (fun _ => rfl) (fun _ => .inl rfl) (by decide) (by decide)) (da_cons (de_var (i := 1) (fun _ => rfl) (fun _ => .inl rfl) (by decide) (by decide)) da_nil (fun _ => rfl)) (fun _ => rfl)) (fun _ => rfl) T.g__law_odd_line T.k__law_odd_line (by decide) (fun _ => rfl) (fun _ => rfl)) (de_callP F T.P__law_random (by decide) (da_cons (de_var (i := 0) (fun _ => rfl) (fun _ => .inl rfl) (by decide) (by decide)) (da_cons de_int da_nil (fun _ => rfl)) (fun _ => rfl)) (fun _ => rfl) T.g__law_random T.k__law_random (by decide) (fun _ => rfl) (fun _ => rfl)) (fun _ => rfl) (fun _ => rfl) (fun _ => rfl) (fun _ => rfl))
  (dss_cons (ds_set F.toFamH (i := 8) (fun _ => rfl) (fun _ => .inl rfl) (fun _ => .inr rfl) (de_lst true (da_cons (de_op (fun _ => op_addU) (snd_add false) (de_sl false (de_var (i := 3) (fun _ => rfl) (fun _ => .inl rfl) (by decide) (by decide)) dp_none (dp_some (de_var (i := 4) (fun _ => rfl) (fun _ => .inl rfl) (by decide) (by decide))) F) (de_sl false (de_var (i := 3) (fun _ => rfl) (fun _ => .inl rfl) (by decide) (by decide)) (dp_some (de_op (fun _ => op_addU) (snd_add false) (de_var (i := 4) (fun _ => rfl) (fun _ => .inl rfl) (by decide) (by decide)) de_int)) dp_none F)) (da_cons (de_op (fun _ => op_addU) (snd_add false) (de_op (fun _ => op_addU) (snd_add false) (de_sl false (de_var (i := 3) (fun _ => rfl) (fun _ => .inl rfl) (by decide) (by decide)) dp_none (dp_some (de_var (i := 4) (fun _ => rfl) (fun _ => .inl rfl) (by decide) (by decide))) F) (de_sl false (de_var (i := 3) (fun _ => rfl) (fun _ => .inl rfl) (by decide) (by decide)) (dp_some (de_var (i := 4) (fun _ => rfl) (fun _ => .inl rfl) (by decide) (by decide))) (dp_some (de_op (fun _ => op_addU) (snd_add false) (de_var (i := 4) (fun _ => rfl) (fun _ => .inl rfl) (by decide) (by decide)) de_int)) F)) (de_sl false (de_var (i := 3) (fun _ => rfl) (fun _ => .inl rfl) (by decide) (by decide)) (dp_some (de_var (i := 4) (fun _ => rfl) (fun _ => .inl rfl) (by decide) (by decide))) dp_none F)) (da_cons (de_op (fun _ => op_addU) (snd_add false) (de_var (i := 3) (fun _ => rfl) (fun _ => .inl rfl) (by decide) (by decide)) (de_lst false (da_cons (de_var (i := 6) (fun _ => rfl) (fun _ => .inl rfl) (by decide) (by decide)) da_nil (fun _ => rfl)))) (da_cons (de_op (fun _ => op_addU) (snd_add false) (de_var (i := 3) (fun _ => rfl) (fun _ => .inl rfl) (by decide) (by decide)) (de_lst false (da_cons de_str da_nil (fun _ => rfl)))) da_nil (fun _ => rfl)) (fun _ => rfl)) (fun _ => rfl)) (fun _ => rfl))) (fun _ => rfl))
  (dss_cons (ds_set F.toFamH (i := 8) (fun _ => rfl) (fun _ => .inl rfl) (fun _ => .inr rfl) (de_op (fun _ => op_addU) (snd_add true) (de_var (i := 8) (fun _ => rfl) (fun _ => .inl rfl) (by decide) (by decide)) (de_lst false (da_cons (de_op (fun _ => op_addU) (snd_add false) (de_op (fun _ => op_addU) (snd_add false) (de_sl false (de_var (i := 3) (fun _ => rfl) (fun _ => .inl rfl) (by decide) (by decide)) dp_none (dp_some (de_var (i := 4) (fun _ => rfl) (fun _ => .inl rfl) (by decide) (by decide))) F) (de_lst false (da_cons (de_var (i := 6) (fun _ => rfl) (fun _ => .inl rfl) (by decide) (by decide)) da_nil (fun _ => rfl)))) (de_sl false (de_var (i := 3) (fun _ => rfl) (fun _ => .inl rfl) (by decide) (by decide)) (dp_some (de_op (fun _ => op_addU) (snd_add false) (de_var (i := 4) (fun _ => rfl) (fun _ => .inl rfl) (by decide) (by decide)) de_int)) dp_none F)) (da_cons (de_op (fun _ => op_addU) (snd_add false) (de_op (fun _ => op_addU) (snd_add false) (de_sl false (de_var (i := 3) (fun _ => rfl) (fun _ => .inl rfl) (by decide) (by decide)) dp_none (dp_some (de_var (i := 4) (fun _ => rfl) (fun _ => .inl rfl) (by decide) (by decide))) F) (de_lst false (da_cons (de_var (i := 6) (fun _ => rfl) (fun _ => .inl rfl) (by decide) (by decide)) da_nil (fun _ => rfl)))) (de_sl false (de_var (i := 3) (fun _ => rfl) (fun _ => .inl rfl) (by decide) (by decide)) (dp_some (de_var (i := 4) (fun _ => rfl) (fun _ => .inl rfl) (by decide) (by decide))) dp_none F)) da_nil (fun _ => rfl)) (fun _ => rfl)))) (fun _ => rfl))
  (dss_cons (ds_expr (de_meth F.toFamH PySem.F.plainAttrs_list PySem.F.slot_list_append PySem.F.type_list_append (fun _ => mt_append) snd_append (fun _ _ _ _ _ R r h => isL_ty R r h) (de_var (i := 8) (fun _ => rfl) (fun _ => .inl rfl) (by decide) (by decide)) (da_cons (de_op (fun _ => op_addU) (snd_add false) (de_op (fun _ => op_addU) (snd_add false) (de_sl false (de_var (i := 3) (fun _ => rfl) (fun _ => .inl rfl) (by decide) (by decide)) dp_none (dp_some (de_var (i := 4) (fun _ => rfl) (fun _ => .inl rfl) (by decide) (by decide))) F) (de_lst false (da_cons (de_ix F.toFamH (de_var (i := 3) (fun _ => rfl) (fun _ => .inl rfl) (by decide) (by decide)) (de_var (i := 5) (fun _ => rfl) (fun _ => .inl rfl) (by decide) (by decide)) (fun _ _ => rfl)) da_nil (fun _ => rfl)))) (de_sl false (de_var (i := 3) (fun _ => rfl) (fun _ => .inl rfl) (by decide) (by decide)) (dp_some (de_op (fun _ => op_addU) (snd_add false) (de_var (i := 4) (fun _ => rfl) (fun _ => .inl rfl) (by decide) (by decide)) de_int)) dp_none F)) da_nil (fun _ => rfl)) (fun _ => rfl) (fun _ => rfl) rfl (fun _ => rfl) (fun _ => rfl)) (fun _ => rfl))
  (dss_cons (ds_if (dt_cmp (fun _ => op_lt) (snd_cmp _) (de_var (i := 7) (fun _ => rfl) (fun _ => .inl rfl) (by decide) (by decide)) de_int rfl) (dss_one (ds_ret (de_meth F.toFamH PySem.F.plainAttrs_str PySem.F.slot_str_join PySem.F.type_str_join (join_at F.toFamH) snd_join (fun _ _ _ _ _ R r h => isS_ty R r h) de_str (da_cons (de_ix F.toFamH (de_var (i := 8) (fun _ => rfl) (fun _ => .inl rfl) (by decide) (by decide)) (de_var (i := 7) (fun _ => rfl) (fun _ => .inl rfl) (by decide) (by decide)) (fun _ _ => rfl)) da_nil (fun _ => rfl)) (fun _ => rfl) (fun _ => rfl) rfl (fun _ => rfl) (fun _ => rfl)))) dss_nil)
  (dss_cons (ds_par F (i := 4) (j := 9) (fun _ => rfl) (fun _ => rfl) (by decide) (fun _ => rfl) (fun _ => rfl) (de_callP F T.P__law_random (by decide) (da_cons (de_var (i := 0) (fun _ => rfl) (fun _ => .inl rfl) (by decide) (by decide)) (da_cons (de_op (fun _ => op_addU) (snd_add false) (de_callB F.toFamH (fun _ => call_lenU) snd_len (da_cons (de_var (i := 2) (fun _ => rfl) (fun _ => .inl rfl) (by decide) (by decide)) da_nil (fun _ => rfl)) (fun _ => rfl) T.z_len rfl (by decide) (by decide) (fun _ => rfl) (fun _ => rfl)) de_int) da_nil (fun _ => rfl)) (fun _ => rfl)) (fun _ => rfl) T.g__law_random T.k__law_random (by decide) (fun _ => rfl) (fun _ => rfl)) (de_callP F T.P__law_choice (by decide) (da_cons (de_var (i := 0) (fun _ => rfl) (fun _ => .inl rfl) (by decide) (by decide)) (da_cons (de_callTy F.toFamH (call_listSC F) (snd_listS false) (da_cons de_str da_nil (fun _ => rfl)) (fun _ => rfl) T.z_list rfl (by decide) (by decide) (fun _ => rfl) (fun _ => rfl)) da_nil (fun _ => rfl)) (fun _ => rfl)) (fun _ => rfl) T.g__law_choice T.k__law_choice (by decide) (fun _ => rfl) (fun _ => rfl)) (fun _ => rfl) (fun _ => rfl) (fun _ => rfl) (fun _ => rfl))
  (dss_one (ds_ret (de_op (fun _ => op_addU) (snd_add false) (de_op (fun _ => op_addU) (snd_add false) (de_sl false (de_var (i := 2) (fun _ => rfl) (fun _ => .inl rfl) (by decide) (by decide)) dp_none (dp_some (de_var (i := 4) (fun _ => rfl) (fun _ => .inl rfl) (by decide) (by decide))) F) (de_ix F.toFamH (de_lst false (da_cons (de_var (i := 9) (fun _ => rfl) (fun _ => .inl rfl) (by decide) (by decide)) (da_cons de_str da_nil (fun _ => rfl)) (fun _ => rfl))) (de_op (fun _ => op_sub) snd_sub (de_var (i := 7) (fun _ => rfl) (fun _ => .inl rfl) (by decide) (by decide)) de_int) (fun _ _ => rfl))) (de_sl false (de_var (i := 2) (fun _ => rfl) (fun _ => .inl rfl) (by decide) (by decide)) (dp_some (de_op (fun _ => op_addU) (snd_add false) (de_var (i := 4) (fun _ => rfl) (fun _ => .inl rfl) (by decide) (by decide)) (de_callP F T.P__law_random (by decide) (da_cons (de_var (i := 0) (fun _ => rfl) (fun _ => .inl rfl) (by decide) (by decide)) (da_cons de_int da_nil (fun _ => rfl)) (fun _ => rfl)) (fun _ => rfl) T.g__law_random T.k__law_random (by decide) (fun _ => rfl) (fun _ => rfl)))) dp_none F))))))))))))
theorem B__law_bent : FnB G 4 T.f__law_bent T.d__law_bent ["_law_source_here", "_law_sizes_here", "_law_wording_here"] (m__law_bent G) := FnB.of T.F__law_bent sc__law_bent T.e__law_bent
theorem P__law_bent : FnP G 4 T.f__law_bent (mp__law_bent G) := T.B__law_bent.pos T.b__law_bent
theorem k_integer_in : PySem.W.keepIn G.K (.ref T.f_integer_in) = true := T.F_integer_in.kp
theorem b_integer_in : Binds G.K T.d_integer_in ["word"] [] := T.F_integer_in.binds fun _ _ _ _ _ _ us hl => match us, hl with | [_], _ => rfl
theorem e_integer_in : ∀ E, DSs (FnX G 0 ["word", "digits", "digit"] "integer_in" (defScope s_integer_in) T.f_integer_in E) G (fun _ => E) (defBody s_integer_in) (c_integer_in G) := fun E => by
  have F := fnX_fam (G := G) (k := 0) (qual := "integer_in") (f := T.f_integer_in) sc_integer_in E
  exact (dss_cons (ds_set F.toFamH (i := 1) (fun _ => rfl) (fun _ => .inl rfl) (fun _ => .inr rfl) (de_if (dt_cmp (eqS_at F.toFamH) snd_eqS (de_sl false (de_var (i := 0) (fun _ => rfl) (fun _ => .inl rfl) (by decide) (by decide)) dp_none (dp_some de_int) F) de_str rfl) (de_sl false (de_var (i := 0) (fun _ => rfl) (fun _ => .inl rfl) (by decide) (by decide)) (dp_some de_int) dp_none F) (de_var (i := 0) (fun _ => rfl) (fun _ => .inl rfl) (by decide) (by decide))) (fun _ => rfl))
  (dss_cons (ds_if (dt_w (dw_or (dt_not (dt_chain (fun _ => op_le) (snd_cmp _) (fun _ => op_le) (snd_cmp _) de_int (de_callB F.toFamH (fun _ => call_lenU) snd_len (da_cons (de_var (i := 1) (fun _ => rfl) (fun _ => .inl rfl) (by decide) (by decide)) da_nil (fun _ => rfl)) (fun _ => rfl) T.z_len rfl (by decide) (by decide) (fun _ => rfl) (fun _ => rfl)) (T.c_MOST_DIGITS F (fun _ => rfl)) rfl)) (dw_or1 (dt_not (dt_val (de_callB F.toFamH (cr_allC F) snd_all (da_cons (de_lc F (own := [("digit", 2)]) (di_str (de_var (i := 1) (fun _ => rfl) (fun _ => .inl rfl) (by decide) (by decide))) (fun _ => blkOk_by (by kernel_rfl)) (dg_name (F.blk _).toFamH (i := 2) (fun _ => rfl) (fun _ => .inl rfl) (fun _ => .inr rfl)) dts_nil (de_cmp (fun _ => op_inS) (snd_inS false) (de_var (i := 2) (fun _ => rfl) (fun _ => .inl rfl) (by decide) (by decide)) (T.c_DIGITS (F.blk _) (fun _ => rfl)) rfl) (by decide) (fun _ _ => rfl)) da_nil (fun _ => rfl)) (fun _ => rfl) T.z_all rfl (by decide) (by decide) (fun _ => rfl) (fun _ => rfl)) (fun _ _ => rfl))) rfl))) (dss_one (ds_ret de_non)) dss_nil)
  (dss_one (ds_ret (de_if (dt_w (dw_or (dt_cmp (neS_at F.toFamH) snd_neS (de_ix F.toFamH (de_var (i := 1) (fun _ => rfl) (fun _ => .inl rfl) (by decide) (by decide)) de_int (fun _ _ => rfl)) de_str rfl) (dw_or1 (dt_cmp (eqS_at F.toFamH) snd_eqS (de_var (i := 0) (fun _ => rfl) (fun _ => .inl rfl) (by decide) (by decide)) de_str rfl) rfl))) (de_callTy F.toFamH (fun _ => call_intU) snd_intU (da_cons (de_var (i := 0) (fun _ => rfl) (fun _ => .inl rfl) (by decide) (by decide)) da_nil (fun _ => rfl)) (fun _ => rfl) T.z_int rfl (by decide) (by decide) (fun _ => rfl) (fun _ => rfl)) de_non)))))
theorem B_integer_in : FnB G 1 T.f_integer_in T.d_integer_in ["word"] (m_integer_in G) := FnB.of T.F_integer_in sc_integer_in T.e_integer_in
theorem P_integer_in : FnP G 1 T.f_integer_in (mp_integer_in G) := T.B_integer_in.pos T.b_integer_in
theorem k_integers_in : PySem.W.keepIn G.K (.ref T.f_integers_in) = true := T.F_integers_in.kp
theorem b_integers_in : Binds G.K T.d_integers_in ["words"] [] := T.F_integers_in.binds fun _ _ _ _ _ _ us hl => match us, hl with | [_], _ => rfl
theorem e_integers_in : ∀ E, DSs (FnX G 1 ["words", "word"] "integers_in" (defScope s_integers_in) T.f_integers_in E) G (fun _ => E) (defBody s_integers_in) (c_integers_in G) := fun E => by
  have F := fnX_fam (G := G) (k := 1) (qual := "integers_in") (f := T.f_integers_in) sc_integers_in E
  exact (dss_one (ds_ret (de_callTy F.toFamH (fun _ => call_tuple_of) snd_tuple (da_cons (de_lc F (own := [("word", 1)]) (di_seq F.toFamH (de_var (i := 0) (fun _ => rfl) (fun _ => .inl rfl) (by decide) (by decide))) (fun _ => blkOk_by (by kernel_rfl)) (dg_name (F.blk _).toFamH (i := 1) (fun _ => rfl) (fun _ => .inl rfl) (fun _ => .inr rfl)) dts_nil (de_callP (F.blk _) T.P_integer_in (by decide) (da_cons (de_var (i := 1) (fun _ => rfl) (fun _ => .inl rfl) (by decide) (by decide)) da_nil (fun _ => rfl)) (fun _ => rfl) T.g_integer_in T.k_integer_in (by decide) (fun _ => rfl) (fun _ => rfl)) (by decide) (fun _ _ => rfl)) da_nil (fun _ => rfl)) (fun _ => rfl) T.z_tuple rfl (by decide) (by decide) (fun _ => rfl) (fun _ => rfl))))
theorem B_integers_in : FnB G 2 T.f_integers_in T.d_integers_in ["words"] (m_integers_in G) := FnB.of T.F_integers_in sc_integers_in T.e_integers_in
theorem P_integers_in : FnP G 2 T.f_integers_in (mp_integers_in G) := T.B_integers_in.pos T.b_integers_in
theorem k_is_integer : PySem.W.keepIn G.K (.ref T.f_is_integer) = true := T.F_is_integer.kp
theorem b_is_integer : Binds G.K T.d_is_integer ["value"] [] := T.F_is_integer.binds fun _ _ _ _ _ _ us hl => match us, hl with | [_], _ => rfl
theorem e_is_integer : ∀ E, DSs (FnX G 0 ["value"] "is_integer" (defScope s_is_integer) T.f_is_integer E) G (fun _ => E) (defBody s_is_integer) (c_is_integer G) := fun E => by
  have F := fnX_fam (G := G) (k := 0) (qual := "is_integer") (f := T.f_is_integer) sc_is_integer E
  exact (dss_one (ds_ret (de_and (de_callB F.toFamH (fun _ => call_isi) snd_isi (da_cons (de_var (i := 0) (fun _ => rfl) (fun _ => .inl rfl) (by decide) (by decide)) (da_cons (de_ty F.toFamH (fun _ => rfl) T.z_int rfl (by decide) (by decide)) da_nil (fun _ => rfl)) (fun _ => rfl)) (fun _ => rfl) T.z_isinstance rfl (by decide) (by decide) (fun _ => rfl) (fun _ => rfl)) (de_one (de_not (de_callB F.toFamH (fun _ => call_isi) snd_isi (da_cons (de_var (i := 0) (fun _ => rfl) (fun _ => .inl rfl) (by decide) (by decide)) (da_cons (de_ty F.toFamH (fun _ => rfl) T.z_bool rfl (by decide) (by decide)) da_nil (fun _ => rfl)) (fun _ => rfl)) (fun _ => rfl) T.z_isinstance rfl (by decide) (by decide) (fun _ => rfl) (fun _ => rfl)))))))
theorem B_is_integer : FnB G 1 T.f_is_integer T.d_is_integer ["value"] (m_is_integer G) := FnB.of T.F_is_integer sc_is_integer T.e_is_integer
theorem P_is_integer : FnP G 1 T.f_is_integer (mp_is_integer G) := T.B_is_integer.pos T.b_is_integer
theorem b_Scheme_largest_amount : Binds G.K T.d_Scheme_largest_amount ["self"] [] := T.F_Scheme_largest_amount.binds fun _ _ _ _ _ _ us hl => match us, hl with | [_], _ => rfl
theorem e_Scheme_largest_amount : ∀ E, DSs (FnX G 0 ["self"] "Scheme.largest_amount" (defScope s_Scheme_largest_amount) T.f_Scheme_largest_amount E) G (fun _ => E) (defBody s_Scheme_largest_amount) (c_Scheme_largest_amount G) := fun E => by
  have F := fnX_fam (G := G) (k := 0) (qual := "Scheme.largest_amount") (f := T.f_Scheme_largest_amount) sc_Scheme_largest_amount E
  exact (dss_one (ds_ret (de_op (fun _ => op_fdivW) snd_fdiv (de_op (fun _ => op_sub) snd_sub (de_fld F.toFamH (i := 0) T.cl_Scheme T.n_Scheme_prime_used (by rw [T.fn_Scheme]; rfl) (by rw [T.fn_Scheme]; decide +kernel) (fun _ => rfl) (de_var (i := 0) (fun _ => rfl) (fun _ => .inl rfl) (by decide) (by decide))) de_int) de_int)))
theorem B_Scheme_largest_amount : FnB G 1 T.f_Scheme_largest_amount T.d_Scheme_largest_amount ["self"] (m_Scheme_largest_amount G) := FnB.of T.F_Scheme_largest_amount sc_Scheme_largest_amount T.e_Scheme_largest_amount
theorem k_is_reduced : PySem.W.keepIn G.K (.ref T.f_is_reduced) = true := T.F_is_reduced.kp
theorem b_is_reduced : Binds G.K T.d_is_reduced ["scheme", "value"] [] := T.F_is_reduced.binds fun _ _ _ _ _ _ us hl => match us, hl with | [_, _], _ => rfl
theorem e_is_reduced : ∀ E, DSs (FnX G 2 ["scheme", "value"] "is_reduced" (defScope s_is_reduced) T.f_is_reduced E) G (fun _ => E) (defBody s_is_reduced) (c_is_reduced G) := fun E => by
  have F := fnX_fam (G := G) (k := 2) (qual := "is_reduced") (f := T.f_is_reduced) sc_is_reduced E
  exact (dss_one (ds_ret (de_and (de_callP F T.P_is_integer (by decide) (da_cons (de_var (i := 1) (fun _ => rfl) (fun _ => .inl rfl) (by decide) (by decide)) da_nil (fun _ => rfl)) (fun _ => rfl) T.g_is_integer T.k_is_integer (by decide) (fun _ => rfl) (fun _ => rfl)) (de_one (de_cmp (fun _ => op_le) (snd_cmp _) (de_callB F.toFamH (fun _ => call_abs) snd_abs (da_cons (de_var (i := 1) (fun _ => rfl) (fun _ => .inl rfl) (by decide) (by decide)) da_nil (fun _ => rfl)) (fun _ => rfl) T.z_abs rfl (by decide) (by decide) (fun _ => rfl) (fun _ => rfl)) (de_prop F (T.B_Scheme_largest_amount) (by decide) T.cl_Scheme T.p_Scheme_largest_amount T.b_Scheme_largest_amount rfl (fun _ => rfl) (de_var (i := 0) (fun _ => rfl) (fun _ => .inl rfl) (by decide) (by decide))) rfl)))))
theorem B_is_reduced : FnB G 3 T.f_is_reduced T.d_is_reduced ["scheme", "value"] (m_is_reduced G) := FnB.of T.F_is_reduced sc_is_reduced T.e_is_reduced
theorem P_is_reduced : FnP G 3 T.f_is_reduced (mp_is_reduced G) := T.B_is_reduced.pos T.b_is_reduced
theorem b_Scheme_accounts : Binds G.K T.d_Scheme_accounts ["self"] [] := T.F_Scheme_accounts.binds fun _ _ _ _ _ _ us hl => match us, hl with | [_], _ => rfl
theorem e_Scheme_accounts : ∀ E, DSs (FnX G 0 ["self"] "Scheme.accounts" (defScope s_Scheme_accounts) T.f_Scheme_accounts E) G (fun _ => E) (defBody s_Scheme_accounts) (c_Scheme_accounts G) := fun E => by
  have F := fnX_fam (G := G) (k := 0) (qual := "Scheme.accounts") (f := T.f_Scheme_accounts) sc_Scheme_accounts E
  exact (dss_one (ds_ret (de_fld F.toFamH (i := 1) T.cl_Scheme T.n_Scheme_accounts_used (by rw [T.fn_Scheme]; rfl) (by rw [T.fn_Scheme]; decide +kernel) (fun _ => rfl) (de_var (i := 0) (fun _ => rfl) (fun _ => .inl rfl) (by decide) (by decide)))))
theorem B_Scheme_accounts : FnB G 1 T.f_Scheme_accounts T.d_Scheme_accounts ["self"] (m_Scheme_accounts G) := FnB.of T.F_Scheme_accounts sc_Scheme_accounts T.e_Scheme_accounts
theorem k_entry_in : PySem.W.keepIn G.K (.ref T.f_entry_in) = true := T.F_entry_in.kp
theorem b_entry_in : Binds G.K T.d_entry_in ["scheme", "line"] [] := T.F_entry_in.binds fun _ _ _ _ _ _ us hl => match us, hl with | [_, _], _ => rfl
theorem e_entry_in : ∀ E, DSs (FnX G 3 ["scheme", "line", "numbers", "first", "second", "amount"] "entry_in" (defScope s_entry_in) T.f_entry_in E) G (fun _ => E) (defBody s_entry_in) (c_entry_in G) := fun E => by
  have F := fnX_fam (G := G) (k := 3) (qual := "entry_in") (f := T.f_entry_in) sc_entry_in E
  exact (dss_cons (ds_set F.toFamH (i := 2) (fun _ => rfl) (fun _ => .inl rfl) (fun _ => .inr rfl) (de_callP F T.P_integers_in (by decide) (da_cons (de_meth F.toFamH PySem.F.plainAttrs_str PySem.F.slot_str_split PySem.F.type_str_split (fun _ => mt_split) (snd_split false) (fun _ _ _ _ _ R r h => isS_ty R r h) (de_var (i := 1) (fun _ => rfl) (fun _ => .inl rfl) (by decide) (by decide)) (da_cons de_str da_nil (fun _ => rfl)) (fun _ => rfl) (fun _ => rfl) rfl (fun _ => rfl) (fun _ => rfl)) da_nil (fun _ => rfl)) (fun _ => rfl) T.g_integers_in T.k_integers_in (by decide) (fun _ => rfl) (fun _ => rfl)) (fun _ => rfl))
  (dss_cons (ds_if (dt_w (dw_or (dt_cmp (neD_at F.toFamH) snd_ne (de_callB F.toFamH (fun _ => call_lenU) snd_len (da_cons (de_var (i := 2) (fun _ => rfl) (fun _ => .inl rfl) (by decide) (by decide)) da_nil (fun _ => rfl)) (fun _ => rfl) T.z_len rfl (by decide) (by decide) (fun _ => rfl) (fun _ => rfl)) (T.c_ENTRY_NUMBERS F (fun _ => rfl)) rfl) (dw_or1 (dt_cmp (fun _ => op_in_seq) (snd_in false) de_non (de_var (i := 2) (fun _ => rfl) (fun _ => .inl rfl) (by decide) (by decide)) rfl) rfl))) (dss_one (ds_ret de_non)) dss_nil)
  (dss_cons (ds_asg (de_var (i := 2) (fun _ => rfl) (fun _ => .inl rfl) (by decide) (by decide)) (dg_tup F.toFamH (n := 3) (dgs_cons (dg_name F.toFamH (i := 3) (fun _ => rfl) (fun _ => .inl rfl) (fun _ => .inr rfl)) (dgs_cons (dg_name F.toFamH (i := 4) (fun _ => rfl) (fun _ => .inl rfl) (fun _ => .inr rfl)) (dgs_cons (dg_name F.toFamH (i := 5) (fun _ => rfl) (fun _ => .inl rfl) (fun _ => .inr rfl)) dgs_nil (fun _ => rfl)) (fun _ => rfl)) (fun _ => rfl)) rfl (fun j t h => pg_or (pg_tup (F.calm j) h) (pg_lst (F.calm j) h))) (fun _ => rfl) (fun _ => rfl) (fun _ => rfl))
  (dss_cons (ds_if (dt_w (dw_or (dt_not (dt_chain3 (fun _ => op_le) (snd_cmp _) (fun _ => op_lt) (snd_cmp _) (fun _ => op_lt) (snd_cmp _) de_int (de_var (i := 3) (fun _ => rfl) (fun _ => .inl rfl) (by decide) (by decide)) (de_var (i := 4) (fun _ => rfl) (fun _ => .inl rfl) (by decide) (by decide)) (de_prop F (T.B_Scheme_accounts) (by decide) T.cl_Scheme T.p_Scheme_accounts T.b_Scheme_accounts rfl (fun _ => rfl) (de_var (i := 0) (fun _ => rfl) (fun _ => .inl rfl) (by decide) (by decide))) rfl)) (dw_or (dt_cmp (eqD_at F.toFamH) snd_eq (de_var (i := 5) (fun _ => rfl) (fun _ => .inl rfl) (by decide) (by decide)) de_int rfl) (dw_or1 (dt_not (dt_val (de_callP F T.P_is_reduced (by decide) (da_cons (de_var (i := 0) (fun _ => rfl) (fun _ => .inl rfl) (by decide) (by decide)) (da_cons (de_var (i := 5) (fun _ => rfl) (fun _ => .inl rfl) (by decide) (by decide)) da_nil (fun _ => rfl)) (fun _ => rfl)) (fun _ => rfl) T.g_is_reduced T.k_is_reduced (by decide) (fun _ => rfl) (fun _ => rfl)) (fun _ _ => rfl))) rfl)))) (dss_one (ds_ret de_non)) dss_nil)
  (dss_one (ds_ret (de_tup (da_cons (de_tup (da_cons (de_var (i := 3) (fun _ => rfl) (fun _ => .inl rfl) (by decide) (by decide)) (da_cons (de_var (i := 4) (fun _ => rfl) (fun _ => .inl rfl) (by decide) (by decide)) da_nil (fun _ => rfl)) (fun _ => rfl))) (da_cons (de_var (i := 5) (fun _ => rfl) (fun _ => .inl rfl) (by decide) (by decide)) da_nil (fun _ => rfl)) (fun _ => rfl)))))))))
theorem B_entry_in : FnB G 4 T.f_entry_in T.d_entry_in ["scheme", "line"] (m_entry_in G) := FnB.of T.F_entry_in sc_entry_in T.e_entry_in
theorem P_entry_in : FnP G 4 T.f_entry_in (mp_entry_in G) := T.B_entry_in.pos T.b_entry_in
theorem k_read_table_text : PySem.W.keepIn G.K (.ref T.f_read_table_text) = true := T.F_read_table_text.kp
theorem b_read_table_text : Binds G.K T.d_read_table_text ["scheme", "text"] [] := T.F_read_table_text.binds fun _ _ _ _ _ _ us hl => match us, hl with | [_, _], _ => rfl
theorem kb_read_table_text_0_text_scheme : KBn G.K T.d_read_table_text ["scheme", "text"] 0 ["text", "scheme"] (gP Value.none [1, 0]) (gP V.non [1, 0]) := fun_kbn T.F_read_table_text fun _ _ _ _ _ _ us ws h1 h2 => match us, ws, h1, h2 with | [], [_, _], _, _ => rfl
theorem e_read_table_text : ∀ E, DSs (FnX G 4 ["scheme", "text", "found", "index", "line", "entry"] "read_table_text" (defScope s_read_table_text) T.f_read_table_text E) G (fun _ => E) (defBody s_read_table_text) (c_read_table_text G) := fun E => by
  have F := fnX_fam (G := G) (k := 4) (qual := "read_table_text") (f := T.f_read_table_text) sc_read_table_text E
  exact (dss_cons (ds_if (dt_not (dt_val (de_callB F.toFamH (fun _ => call_isi) snd_isi (da_cons (de_var (i := 1) (fun _ => rfl) (fun _ => .inl rfl) (by decide) (by decide)) (da_cons (de_ty F.toFamH (fun _ => rfl) T.z_str rfl (by decide) (by decide)) da_nil (fun _ => rfl)) (fun _ => rfl)) (fun _ => rfl) T.z_isinstance rfl (by decide) (by decide) (fun _ => rfl) (fun _ => rfl)) (fun _ _ => rfl))) (dss_one (ds_raise F (by decide) T.x_BadText (fun _ => rfl) T.ge_BadText (de_un (fun _ => un_neg) snd_neg de_int) rfl (fun _ => rfl) (fun _ => rfl))) dss_nil)
  (dss_cons (ds_set F.toFamH (i := 2) (fun _ => rfl) (fun _ => .inl rfl) (fun _ => .inr rfl) (de_lst true da_nil) (fun _ => rfl))
  (dss_cons (ds_for F (di_enum F.toFamH (da_cons (de_if (dt_cmp (neS_at F.toFamH) snd_neS (de_var (i := 1) (fun _ => rfl) (fun _ => .inl rfl) (by decide) (by decide)) de_str rfl) (de_meth F.toFamH PySem.F.plainAttrs_str PySem.F.slot_str_split PySem.F.type_str_split (fun _ => mt_split) (snd_split false) (fun _ _ _ _ _ R r h => isS_ty R r h) (de_var (i := 1) (fun _ => rfl) (fun _ => .inl rfl) (by decide) (by decide)) (da_cons de_str da_nil (fun _ => rfl)) (fun _ => rfl) (fun _ => rfl) rfl (fun _ => rfl) (fun _ => rfl)) (de_lst false da_nil)) da_nil (fun _ => rfl)) (fun _ => rfl) T.z_enumerate (fun _ => rfl)) (dg_tup F.toFamH (n := 2) (dgs_cons (dg_name F.toFamH (i := 3) (fun _ => rfl) (fun _ => .inl rfl) (fun _ => .inr rfl)) (dgs_cons (dg_name F.toFamH (i := 4) (fun _ => rfl) (fun _ => .inl rfl) (fun _ => .inr rfl)) dgs_nil (fun _ => rfl)) (fun _ => rfl)) rfl (fun j t h => pg_or (pg_tup (F.calm j) h) (pg_lst (F.calm j) h))) (dss_cons (ds_set F.toFamH (i := 5) (fun _ => rfl) (fun _ => .inl rfl) (fun _ => .inr rfl) (de_callP F T.P_entry_in (by decide) (da_cons (de_var (i := 0) (fun _ => rfl) (fun _ => .inl rfl) (by decide) (by decide)) (da_cons (de_var (i := 4) (fun _ => rfl) (fun _ => .inl rfl) (by decide) (by decide)) da_nil (fun _ => rfl)) (fun _ => rfl)) (fun _ => rfl) T.g_entry_in T.k_entry_in (by decide) (fun _ => rfl) (fun _ => rfl)) (fun _ => rfl))
  (dss_cons (ds_if (dt_w (dw_or (dt_cmp (fun _ => op_isN) snd_isN (de_var (i := 5) (fun _ => rfl) (fun _ => .inl rfl) (by decide) (by decide)) de_non rfl) (dw_or1 (dt_w (dw_and (dt_cmp (neD_at F.toFamH) snd_ne (de_var (i := 2) (fun _ => rfl) (fun _ => .inl rfl) (by decide) (by decide)) (de_lst false da_nil) rfl) (dw_and1 (dt_cmp (leT_at F.toFamH) snd_leT (de_ix F.toFamH (de_var (i := 5) (fun _ => rfl) (fun _ => .inl rfl) (by decide) (by decide)) de_int (fun _ _ => rfl)) (de_ix F.toFamH (de_ix F.toFamH (de_var (i := 2) (fun _ => rfl) (fun _ => .inl rfl) (by decide) (by decide)) (de_un (fun _ => un_neg) snd_neg de_int) (fun _ _ => rfl)) de_int (fun _ _ => rfl)) rfl) rfl))) rfl))) (dss_one (ds_raise F (by decide) T.x_BadText (fun _ => rfl) T.ge_BadText (de_var (i := 3) (fun _ => rfl) (fun _ => .inl rfl) (by decide) (by decide)) rfl (fun _ => rfl) (fun _ => rfl))) dss_nil)
  (dss_one (ds_expr (de_meth F.toFamH PySem.F.plainAttrs_list PySem.F.slot_list_append PySem.F.type_list_append (fun _ => mt_append) snd_append (fun _ _ _ _ _ R r h => isL_ty R r h) (de_var (i := 2) (fun _ => rfl) (fun _ => .inl rfl) (by decide) (by decide)) (da_cons (de_var (i := 5) (fun _ => rfl) (fun _ => .inl rfl) (by decide) (by decide)) da_nil (fun _ => rfl)) (fun _ => rfl) (fun _ => rfl) rfl (fun _ => rfl) (fun _ => rfl)) (fun _ => rfl))))) owns_fn (fun _ _ => rfl))
  (dss_one (ds_ret (de_callTy F.toFamH (fun _ => call_tuple_of) snd_tuple (da_cons (de_var (i := 2) (fun _ => rfl) (fun _ => .inl rfl) (by decide) (by decide)) da_nil (fun _ => rfl)) (fun _ => rfl) T.z_tuple rfl (by decide) (by decide) (fun _ => rfl) (fun _ => rfl)))))))
theorem B_read_table_text : FnB G 5 T.f_read_table_text T.d_read_table_text ["scheme", "text"] (m_read_table_text G) := FnB.of T.F_read_table_text sc_read_table_text T.e_read_table_text
theorem P_read_table_text : FnP G 5 T.f_read_table_text (mp_read_table_text G) := T.B_read_table_text.pos T.b_read_table_text
theorem k__law_heard : PySem.W.keepIn G.K (.ref T.f__law_heard) = true := T.F__law_heard.kp
theorem b__law_heard : Binds G.K T.d__law_heard ["_law_plan", "_law_wording_here", "_law_by_name"] [] := T.F__law_heard.binds fun _ _ _ _ _ _ us hl => match us, hl with | [_, _, _], _ => rfl
theorem e__law_heard : ∀ E, DSs (FnX G 5 ["_law_plan", "_law_wording_here", "_law_by_name", "_law_found", "e"] "_law_heard" (defScope s__law_heard) T.f__law_heard E) G (fun _ => E) (defBody s__law_heard) (c__law_heard G) := fun E => by
  have F := fnX_fam (G := G) (k := 5) (qual := "_law_heard") (f := T.f__law_heard) sc__law_heard E
  exact (dss_cons (ds_set F.toFamH (i := 3) (fun _ => rfl) (fun _ => .inl rfl) (fun _ => .inr rfl) de_str (fun _ => rfl))
  (dss_cons (ds_try F T.cu (i := 4) (fun _ => rfl) (fun _ => rfl) (fun _ => rfl) (fun _ => rfl) (fun j => ⟨rfl, rfl, .inl (by rw [F.mg j]; exact T.ge_BadText)⟩) T.hm_BadText (fun E1 F1 => (dss_one (ds_set F1.toFamH (i := 3) (fun _ => rfl) (fun _ => .inl rfl) (fun _ => .inr rfl) (de_if (dt_val (de_var (i := 2) (fun _ => rfl) (fun _ => .inl rfl) (by decide) (by decide)) (fun _ _ => rfl)) (de_callK0 (x := "read_table_text") F1 T.B_read_table_text (by decide) (fun _ => rfl) T.g_read_table_text T.k_read_table_text T.kb_read_table_text_0_text_scheme (gP_ok (perm := [1, 0]) rfl) (dk_cons (de_var (i := 1) (fun _ => rfl) (fun _ => .inl rfl) (by decide) (by decide)) (dk_cons (de_var (i := 0) (fun _ => rfl) (fun _ => .inl rfl) (by decide) (by decide)) dk_nil)) (fun _ => rfl) (fun _ => rfl) (by decide) (fun _ => rfl)) (de_callP F1 T.P_read_table_text (by decide) (da_cons (de_var (i := 0) (fun _ => rfl) (fun _ => .inl rfl) (by decide) (by decide)) (da_cons (de_var (i := 1) (fun _ => rfl) (fun _ => .inl rfl) (by decide) (by decide)) da_nil (fun _ => rfl)) (fun _ => rfl)) (fun _ => rfl) T.g_read_table_text T.k_read_table_text (by decide) (fun _ => rfl) (fun _ => rfl))) (fun _ => rfl)))) (fun a dx C F2 => (dss_one (ds_set F2 (i := 3) (fun _ => rfl) (fun _ => .inl rfl) (fun _ => .inr rfl) (de_if (dt_w (dw_and (dt_val (de_callB F2 (fun p => call_isF F.toFamH p) (snd_isE rfl T.he_CrossError T.hk_CrossError) (da_cons (de_var (i := 4) (fun _ => rfl) (fun _ => .inl rfl) (by decide) (by decide)) (da_cons (de_con F2 (fun _ => rfl) T.ge_CrossError (by decide)) da_nil (fun _ => rfl)) (fun _ => rfl)) (fun _ => rfl) T.z_isinstance rfl (by decide) (by decide) (fun _ => rfl) (fun _ => rfl)) (fun _ _ => rfl)) (dw_and1 (dt_val (de_callB F2 (fun p => call_isF F.toFamH p) (snd_isE rfl T.he_ValueError T.hk_ValueError) (da_cons (de_var (i := 4) (fun _ => rfl) (fun _ => .inl rfl) (by decide) (by decide)) (da_cons (de_ty F2 (fun _ => rfl) T.z_ValueError rfl (by decide) (by decide)) da_nil (fun _ => rfl)) (fun _ => rfl)) (fun _ => rfl) T.z_isinstance rfl (by decide) (by decide) (fun _ => rfl) (fun _ => rfl)) (fun _ _ => rfl)) rfl))) (de_xf F.toFamH T.xfc_BadText (by rw [T.xf_BadText]; exact T.xn_BadText) (de_var (i := 4) (fun _ => rfl) (fun _ => .inl rfl) (by decide) (by decide)) T.xf_BadText (fun _ => rfl)) de_str) (fun _ => rfl)))))
  (dss_one (ds_ret (de_var (i := 3) (fun _ => rfl) (fun _ => .inl rfl) (by decide) (by decide))))))
theorem B__law_heard : FnB G 6 T.f__law_heard T.d__law_heard ["_law_plan", "_law_wording_here", "_law_by_name"] (m__law_heard G) := FnB.of T.F__law_heard sc__law_heard T.e__law_heard
theorem P__law_heard : FnP G 6 T.f__law_heard (mp__law_heard G) := T.B__law_heard.pos T.b__law_heard
theorem k__law_integer : PySem.W.keepIn G.K (.ref T.f__law_integer) = true := T.F__law_integer.kp
theorem b__law_integer : Binds G.K T.d__law_integer ["_law_word"] [] := T.F__law_integer.binds fun _ _ _ _ _ _ us hl => match us, hl with | [_], _ => rfl
theorem e__law_integer : ∀ E, DSs (FnX G 0 ["_law_word", "_law_digits", "_law_sign"] "_law_integer" (defScope s__law_integer) T.f__law_integer E) G (fun _ => E) (defBody s__law_integer) (c__law_integer G) := fun E => by
  have F := fnX_fam (G := G) (k := 0) (qual := "_law_integer") (f := T.f__law_integer) sc__law_integer E
  exact (dss_cons (ds_set F.toFamH (i := 1) (fun _ => rfl) (fun _ => .inl rfl) (fun _ => .inr rfl) (de_sl false (de_var (i := 0) (fun _ => rfl) (fun _ => .inl rfl) (by decide) (by decide)) (dp_some (de_callTy F.toFamH (fun _ => call_intU) snd_intU (da_cons (de_cmp (eqS_at F.toFamH) snd_eqS (de_sl false (de_var (i := 0) (fun _ => rfl) (fun _ => .inl rfl) (by decide) (by decide)) dp_none (dp_some de_int) F) de_str rfl) da_nil (fun _ => rfl)) (fun _ => rfl) T.z_int rfl (by decide) (by decide) (fun _ => rfl) (fun _ => rfl))) dp_none F) (fun _ => rfl))
  (dss_cons (ds_if (dt_w (dw_or (dt_cmp (eqS_at F.toFamH) snd_eqS (de_var (i := 1) (fun _ => rfl) (fun _ => .inl rfl) (by decide) (by decide)) de_str rfl) (dw_or (dt_cmp (fun _ => op_gt) (snd_cmp _) (de_callB F.toFamH (fun _ => call_lenU) snd_len (da_cons (de_var (i := 1) (fun _ => rfl) (fun _ => .inl rfl) (by decide) (by decide)) da_nil (fun _ => rfl)) (fun _ => rfl) T.z_len rfl (by decide) (by decide) (fun _ => rfl) (fun _ => rfl)) de_int rfl) (dw_or1 (dt_cmp (neD_at F.toFamH) snd_ne (de_lc F (own := [("_law_sign", 2)]) (di_str (de_var (i := 1) (fun _ => rfl) (fun _ => .inl rfl) (by decide) (by decide))) (fun _ => blkOk_by (by kernel_rfl)) (dg_name (F.blk _).toFamH (i := 2) (fun _ => rfl) (fun _ => .inl rfl) (fun _ => .inr rfl)) (dts_one (dt_cmp (fun _ => op_notInS) (snd_inS true) (de_var (i := 2) (fun _ => rfl) (fun _ => .inl rfl) (by decide) (by decide)) de_str rfl)) de_int (by decide) (fun _ _ => rfl)) (de_lst false da_nil) rfl) rfl)))) (dss_one (ds_ret de_non)) dss_nil)
  (dss_one (ds_ret (de_if (dt_cmp (eqS_at F.toFamH) snd_eqS (de_callTy F.toFamH (fun _ => call_strU) snd_strU (da_cons (de_callTy F.toFamH (fun _ => call_intU) snd_intU (da_cons (de_var (i := 0) (fun _ => rfl) (fun _ => .inl rfl) (by decide) (by decide)) da_nil (fun _ => rfl)) (fun _ => rfl) T.z_int rfl (by decide) (by decide) (fun _ => rfl) (fun _ => rfl)) da_nil (fun _ => rfl)) (fun _ => rfl) T.z_str rfl (by decide) (by decide) (fun _ => rfl) (fun _ => rfl)) (de_var (i := 0) (fun _ => rfl) (fun _ => .inl rfl) (by decide) (by decide)) rfl) (de_callTy F.toFamH (fun _ => call_intU) snd_intU (da_cons (de_var (i := 0) (fun _ => rfl) (fun _ => .inl rfl) (by decide) (by decide)) da_nil (fun _ => rfl)) (fun _ => rfl) T.z_int rfl (by decide) (by decide) (fun _ => rfl) (fun _ => rfl)) de_non)))))
theorem B__law_integer : FnB G 1 T.f__law_integer T.d__law_integer ["_law_word"] (m__law_integer G) := FnB.of T.F__law_integer sc__law_integer T.e__law_integer
theorem P__law_integer : FnP G 1 T.f__law_integer (mp__law_integer G) := T.B__law_integer.pos T.b__law_integer
theorem k__law_entry : PySem.W.keepIn G.K (.ref T.f__law_entry) = true := T.F__law_entry.kp
theorem b__law_entry : Binds G.K T.d__law_entry ["_law_sizes_here", "_law_line"] [] := T.F__law_entry.binds fun _ _ _ _ _ _ us hl => match us, hl with | [_, _], _ => rfl
theorem e__law_entry : ∀ E, DSs (FnX G 1 ["_law_sizes_here", "_law_line", "_law_numbers", "_law_word", "_law_first", "_law_second", "_law_number_here"] "_law_entry" (defScope s__law_entry) T.f__law_entry E) G (fun _ => E) (defBody s__law_entry) (c__law_entry G) := fun E => by
  have F := fnX_fam (G := G) (k := 1) (qual := "_law_entry") (f := T.f__law_entry) sc__law_entry E
  exact (dss_cons (ds_setLc F (i := 2) (fun _ => rfl) (fun _ => rfl) (fun _ => sw_true rfl rfl rfl rfl) (own := [("_law_word", 3)]) (di_seq F.toFamH (de_meth F.toFamH PySem.F.plainAttrs_str PySem.F.slot_str_split PySem.F.type_str_split (fun _ => mt_split) (snd_split false) (fun _ _ _ _ _ R r h => isS_ty R r h) (de_var (i := 1) (fun _ => rfl) (fun _ => .inl rfl) (by decide) (by decide)) (da_cons de_str da_nil (fun _ => rfl)) (fun _ => rfl) (fun _ => rfl) rfl (fun _ => rfl) (fun _ => rfl))) (fun _ => blkOk_by (by kernel_rfl)) (dg_name (F.blk _).toFamH (i := 3) (fun _ => rfl) (fun _ => .inl rfl) (fun _ => .inr rfl)) dts_nil (de_callP (F.blk _) T.P__law_integer (by decide) (da_cons (de_var (i := 3) (fun _ => rfl) (fun _ => .inl rfl) (by decide) (by decide)) da_nil (fun _ => rfl)) (fun _ => rfl) T.g__law_integer T.k__law_integer (by decide) (fun _ => rfl) (fun _ => rfl)) (by decide) (fun _ _ => rfl))
  (dss_cons (ds_if (dt_w (dw_or (dt_cmp (neD_at F.toFamH) snd_ne (de_callB F.toFamH (fun _ => call_lenU) snd_len (da_cons (de_var (i := 2) (fun _ => rfl) (fun _ => .inl rfl) (by decide) (by decide)) da_nil (fun _ => rfl)) (fun _ => rfl) T.z_len rfl (by decide) (by decide) (fun _ => rfl) (fun _ => rfl)) de_int rfl) (dw_or1 (dt_cmp (fun _ => op_in_seq) (snd_in false) de_non (de_var (i := 2) (fun _ => rfl) (fun _ => .inl rfl) (by decide) (by decide)) rfl) rfl))) (dss_one (ds_ret de_non)) dss_nil)
  (dss_cons (ds_asg (de_var (i := 2) (fun _ => rfl) (fun _ => .inl rfl) (by decide) (by decide)) (dg_tup F.toFamH (n := 3) (dgs_cons (dg_name F.toFamH (i := 4) (fun _ => rfl) (fun _ => .inl rfl) (fun _ => .inr rfl)) (dgs_cons (dg_name F.toFamH (i := 5) (fun _ => rfl) (fun _ => .inl rfl) (fun _ => .inr rfl)) (dgs_cons (dg_name F.toFamH (i := 6) (fun _ => rfl) (fun _ => .inl rfl) (fun _ => .inr rfl)) dgs_nil (fun _ => rfl)) (fun _ => rfl)) (fun _ => rfl)) rfl (fun j t h => pg_or (pg_tup (F.calm j) h) (pg_lst (F.calm j) h))) (fun _ => rfl) (fun _ => rfl) (fun _ => rfl))
  (dss_cons (ds_if (dt_w (dw_or (dt_cmp (fun _ => op_lt) (snd_cmp _) (de_var (i := 4) (fun _ => rfl) (fun _ => .inl rfl) (by decide) (by decide)) de_int rfl) (dw_or (dt_cmp (fun _ => op_ge) (snd_cmp _) (de_var (i := 4) (fun _ => rfl) (fun _ => .inl rfl) (by decide) (by decide)) (de_var (i := 5) (fun _ => rfl) (fun _ => .inl rfl) (by decide) (by decide)) rfl) (dw_or (dt_cmp (fun _ => op_ge) (snd_cmp _) (de_var (i := 5) (fun _ => rfl) (fun _ => .inl rfl) (by decide) (by decide)) (de_ix F.toFamH (de_var (i := 0) (fun _ => rfl) (fun _ => .inl rfl) (by decide) (by decide)) de_int (fun _ _ => rfl)) rfl) (dw_or (dt_cmp (eqD_at F.toFamH) snd_eq (de_var (i := 6) (fun _ => rfl) (fun _ => .inl rfl) (by decide) (by decide)) de_int rfl) (dw_or1 (dt_cmp (fun _ => op_ge) (snd_cmp _) (de_op (fun _ => op_mulU) (snd_mul false) de_int (de_callB F.toFamH (fun _ => call_abs) snd_abs (da_cons (de_var (i := 6) (fun _ => rfl) (fun _ => .inl rfl) (by decide) (by decide)) da_nil (fun _ => rfl)) (fun _ => rfl) T.z_abs rfl (by decide) (by decide) (fun _ => rfl) (fun _ => rfl))) (de_ix F.toFamH (de_var (i := 0) (fun _ => rfl) (fun _ => .inl rfl) (by decide) (by decide)) de_int (fun _ _ => rfl)) rfl) rfl)))))) (dss_one (ds_ret de_non)) dss_nil)
  (dss_one (ds_ret (de_tup (da_cons (de_tup (da_cons (de_var (i := 4) (fun _ => rfl) (fun _ => .inl rfl) (by decide) (by decide)) (da_cons (de_var (i := 5) (fun _ => rfl) (fun _ => .inl rfl) (by decide) (by decide)) da_nil (fun _ => rfl)) (fun _ => rfl))) (da_cons (de_var (i := 6) (fun _ => rfl) (fun _ => .inl rfl) (by decide) (by decide)) da_nil (fun _ => rfl)) (fun _ => rfl)))))))))
theorem B__law_entry : FnB G 2 T.f__law_entry T.d__law_entry ["_law_sizes_here", "_law_line"] (m__law_entry G) := FnB.of T.F__law_entry sc__law_entry T.e__law_entry
theorem P__law_entry : FnP G 2 T.f__law_entry (mp__law_entry G) := T.B__law_entry.pos T.b__law_entry
theorem k__law_decided : PySem.W.keepIn G.K (.ref T.f__law_decided) = true := T.F__law_decided.kp
theorem b__law_decided : Binds G.K T.d__law_decided ["_law_sizes_here", "_law_wording_here"] [] := T.F__law_decided.binds fun _ _ _ _ _ _ us hl => match us, hl with | [_, _], _ => rfl
theorem e__law_decided : ∀ E, DSs (FnX G 2 ["_law_sizes_here", "_law_wording_here", "_law_found", "_law_index", "_law_line", "_law_own_entry"] "_law_decided" (defScope s__law_decided) T.f__law_decided E) G (fun _ => E) (defBody s__law_decided) (c__law_decided G) := fun E => by
  have F := fnX_fam (G := G) (k := 2) (qual := "_law_decided") (f := T.f__law_decided) sc__law_decided E
  exact (dss_cons (ds_if (dt_not (dt_val (de_callB F.toFamH (fun _ => call_isi) snd_isi (da_cons (de_var (i := 1) (fun _ => rfl) (fun _ => .inl rfl) (by decide) (by decide)) (da_cons (de_ty F.toFamH (fun _ => rfl) T.z_str rfl (by decide) (by decide)) da_nil (fun _ => rfl)) (fun _ => rfl)) (fun _ => rfl) T.z_isinstance rfl (by decide) (by decide) (fun _ => rfl) (fun _ => rfl)) (fun _ _ => rfl))) (dss_one (ds_ret (de_un (fun _ => un_neg) snd_neg de_int))) dss_nil)
  (dss_cons (ds_set F.toFamH (i := 2) (fun _ => rfl) (fun _ => .inl rfl) (fun _ => .inr rfl) (de_lst true da_nil) (fun _ => rfl))
  (dss_cons (ds_for F (di_enum F.toFamH (da_cons (de_if (dt_cmp (neS_at F.toFamH) snd_neS (de_var (i := 1) (fun _ => rfl) (fun _ => .inl rfl) (by decide) (by decide)) de_str rfl) (de_meth F.toFamH PySem.F.plainAttrs_str PySem.F.slot_str_split PySem.F.type_str_split (fun _ => mt_split) (snd_split false) (fun _ _ _ _ _ R r h => isS_ty R r h) (de_var (i := 1) (fun _ => rfl) (fun _ => .inl rfl) (by decide) (by decide)) (da_cons de_str da_nil (fun _ => rfl)) (fun _ => rfl) (fun _ => rfl) rfl (fun _ => rfl) (fun _ => rfl)) (de_lst false da_nil)) da_nil (fun _ => rfl)) (fun _ => rfl) T.z_enumerate (fun _ => rfl)) (dg_tup F.toFamH (n := 2) (dgs_cons (dg_name F.toFamH (i := 3) (fun _ => rfl) (fun _ => .inl rfl) (fun _ => .inr rfl)) (dgs_cons (dg_name F.toFamH (i := 4) (fun _ => rfl) (fun _ => .inl rfl) (fun _ => .inr rfl)) dgs_nil (fun _ => rfl)) (fun _ => rfl)) rfl (fun j t h => pg_or (pg_tup (F.calm j) h) (pg_lst (F.calm j) h))) (dss_cons (ds_set F.toFamH (i := 5) (fun _ => rfl) (fun _ => .inl rfl) (fun _ => .inr rfl) (de_callP F T.P__law_entry (by decide) (da_cons (de_var (i := 0) (fun _ => rfl) (fun _ => .inl rfl) (by decide) (by decide)) (da_cons (de_var (i := 4) (fun _ => rfl) (fun _ => .inl rfl) (by decide) (by decide)) da_nil (fun _ => rfl)) (fun _ => rfl)) (fun _ => rfl) T.g__law_entry T.k__law_entry (by decide) (fun _ => rfl) (fun _ => rfl)) (fun _ => rfl))
  (dss_cons (ds_if (dt_w (dw_or (dt_cmp (fun _ => op_isN) snd_isN (de_var (i := 5) (fun _ => rfl) (fun _ => .inl rfl) (by decide) (by decide)) de_non rfl) (dw_or1 (dt_w (dw_and (dt_cmp (neD_at F.toFamH) snd_ne (de_var (i := 2) (fun _ => rfl) (fun _ => .inl rfl) (by decide) (by decide)) (de_lst false da_nil) rfl) (dw_and1 (dt_cmp (geT_at F.toFamH) snd_geT (de_ix F.toFamH (de_ix F.toFamH (de_var (i := 2) (fun _ => rfl) (fun _ => .inl rfl) (by decide) (by decide)) (de_un (fun _ => un_neg) snd_neg de_int) (fun _ _ => rfl)) de_int (fun _ _ => rfl)) (de_ix F.toFamH (de_var (i := 5) (fun _ => rfl) (fun _ => .inl rfl) (by decide) (by decide)) de_int (fun _ _ => rfl)) rfl) rfl))) rfl))) (dss_one (ds_ret (de_var (i := 3) (fun _ => rfl) (fun _ => .inl rfl) (by decide) (by decide)))) dss_nil)
  (dss_one (ds_expr (de_meth F.toFamH PySem.F.plainAttrs_list PySem.F.slot_list_append PySem.F.type_list_append (fun _ => mt_append) snd_append (fun _ _ _ _ _ R r h => isL_ty R r h) (de_var (i := 2) (fun _ => rfl) (fun _ => .inl rfl) (by decide) (by decide)) (da_cons (de_var (i := 5) (fun _ => rfl) (fun _ => .inl rfl) (by decide) (by decide)) da_nil (fun _ => rfl)) (fun _ => rfl) (fun _ => rfl) rfl (fun _ => rfl) (fun _ => rfl)) (fun _ => rfl))))) owns_fn (fun _ _ => rfl))
  (dss_one (ds_ret (de_callTy F.toFamH (fun _ => call_tuple_of) snd_tuple (da_cons (de_var (i := 2) (fun _ => rfl) (fun _ => .inl rfl) (by decide) (by decide)) da_nil (fun _ => rfl)) (fun _ => rfl) T.z_tuple rfl (by decide) (by decide) (fun _ => rfl) (fun _ => rfl)))))))
theorem B__law_decided : FnB G 3 T.f__law_decided T.d__law_decided ["_law_sizes_here", "_law_wording_here"] (m__law_decided G) := FnB.of T.F__law_decided sc__law_decided T.e__law_decided
theorem P__law_decided : FnP G 3 T.f__law_decided (mp__law_decided G) := T.B__law_decided.pos T.b__law_decided
theorem k__law_right : PySem.W.keepIn G.K (.ref T.f__law_right) = true := T.F__law_right.kp
theorem b__law_right : Binds G.K T.d__law_right ["_law_plan", "_law_sizes_here", "_law_wording_here"] [] := T.F__law_right.binds fun _ _ _ _ _ _ us hl => match us, hl with | [_, _, _], _ => rfl
theorem e__law_right : ∀ E, DSs (FnX G 6 ["_law_plan", "_law_sizes_here", "_law_wording_here", "_law_due"] "_law_right" (defScope s__law_right) T.f__law_right E) G (fun _ => E) (defBody s__law_right) (c__law_right G) := fun E => by
  have F := fnX_fam (G := G) (k := 6) (qual := "_law_right") (f := T.f__law_right) sc__law_right E
  exact (dss_cons (ds_set F.toFamH (i := 3) (fun _ => rfl) (fun _ => .inl rfl) (fun _ => .inr rfl) (de_callP F T.P__law_decided (by decide) (da_cons (de_var (i := 1) (fun _ => rfl) (fun _ => .inl rfl) (by decide) (by decide)) (da_cons (de_var (i := 2) (fun _ => rfl) (fun _ => .inl rfl) (by decide) (by decide)) da_nil (fun _ => rfl)) (fun _ => rfl)) (fun _ => rfl) T.g__law_decided T.k__law_decided (by decide) (fun _ => rfl) (fun _ => rfl)) (fun _ => rfl))
  (dss_one (ds_ret (de_cmp (eqD_at F.toFamH) snd_eq (de_callB F.toFamH (call_reprC F.toFamH) snd_repr (da_cons (de_lst false (da_cons (de_callP F T.P__law_heard (by decide) (da_cons (de_var (i := 0) (fun _ => rfl) (fun _ => .inl rfl) (by decide) (by decide)) (da_cons (de_var (i := 2) (fun _ => rfl) (fun _ => .inl rfl) (by decide) (by decide)) (da_cons de_bl da_nil (fun _ => rfl)) (fun _ => rfl)) (fun _ => rfl)) (fun _ => rfl) T.g__law_heard T.k__law_heard (by decide) (fun _ => rfl) (fun _ => rfl)) (da_cons (de_callP F T.P__law_heard (by decide) (da_cons (de_var (i := 0) (fun _ => rfl) (fun _ => .inl rfl) (by decide) (by decide)) (da_cons (de_var (i := 2) (fun _ => rfl) (fun _ => .inl rfl) (by decide) (by decide)) (da_cons de_bl da_nil (fun _ => rfl)) (fun _ => rfl)) (fun _ => rfl)) (fun _ => rfl) T.g__law_heard T.k__law_heard (by decide) (fun _ => rfl) (fun _ => rfl)) da_nil (fun _ => rfl)) (fun _ => rfl))) da_nil (fun _ => rfl)) (fun _ => rfl) T.z_repr rfl (by decide) (by decide) (fun _ => rfl) (fun _ => rfl)) (de_callB F.toFamH (call_reprC F.toFamH) snd_repr (da_cons (de_lst false (da_cons (de_var (i := 3) (fun _ => rfl) (fun _ => .inl rfl) (by decide) (by decide)) (da_cons (de_var (i := 3) (fun _ => rfl) (fun _ => .inl rfl) (by decide) (by decide)) da_nil (fun _ => rfl)) (fun _ => rfl))) da_nil (fun _ => rfl)) (fun _ => rfl) T.z_repr rfl (by decide) (by decide) (fun _ => rfl) (fun _ => rfl)) rfl))))
theorem B__law_right : FnB G 7 T.f__law_right T.d__law_right ["_law_plan", "_law_sizes_here", "_law_wording_here"] (m__law_right G) := FnB.of T.F__law_right sc__law_right T.e__law_right
theorem P__law_right : FnP G 7 T.f__law_right (mp__law_right G) := T.B__law_right.pos T.b__law_right
theorem k_table_text : PySem.W.keepIn G.K (.ref T.f_table_text) = true := T.F_table_text.kp
theorem b_table_text : Binds G.K T.d_table_text ["table"] [] := T.F_table_text.binds fun _ _ _ _ _ _ us hl => match us, hl with | [_], _ => rfl
theorem kb_table_text_0_table : KBn G.K T.d_table_text ["table"] 0 ["table"] (gP Value.none [0]) (gP V.non [0]) := fun_kbn T.F_table_text fun _ _ _ _ _ _ us ws h1 h2 => match us, ws, h1, h2 with | [], [_], _, _ => rfl
theorem e_table_text : ∀ E, DSs (FnX G 0 ["table", "first", "second", "amount"] "table_text" (defScope s_table_text) T.f_table_text E) G (fun _ => E) (defBody s_table_text) (c_table_text G) := fun E => by
  have F := fnX_fam (G := G) (k := 0) (qual := "table_text") (f := T.f_table_text) sc_table_text E
  exact (dss_one (ds_ret (de_meth F.toFamH PySem.F.plainAttrs_str PySem.F.slot_str_join PySem.F.type_str_join (join_at F.toFamH) snd_join (fun _ _ _ _ _ R r h => isS_ty R r h) de_str (da_cons (de_lc F (own := [("first", 1), ("second", 2), ("amount", 3)]) (di_seq F.toFamH (de_var (i := 0) (fun _ => rfl) (fun _ => .inl rfl) (by decide) (by decide))) (fun _ => blkOk_by (by kernel_rfl)) (dg_tup (F.blk _).toFamH (n := 2) (dgs_cons (dg_tup (F.blk _).toFamH (n := 2) (dgs_cons (dg_name (F.blk _).toFamH (i := 1) (fun _ => rfl) (fun _ => .inl rfl) (fun _ => .inr rfl)) (dgs_cons (dg_name (F.blk _).toFamH (i := 2) (fun _ => rfl) (fun _ => .inl rfl) (fun _ => .inr rfl)) dgs_nil (fun _ => rfl)) (fun _ => rfl)) rfl (fun j t h => pg_or (pg_tup ((F.blk _).calm j) h) (pg_lst ((F.blk _).calm j) h))) (dgs_cons (dg_name (F.blk _).toFamH (i := 3) (fun _ => rfl) (fun _ => .inl rfl) (fun _ => .inr rfl)) dgs_nil (fun _ => rfl)) (fun _ => rfl)) rfl (fun j t h => pg_or (pg_tup ((F.blk _).calm j) h) (pg_lst ((F.blk _).calm j) h))) dts_nil (de_meth (F.blk _).toFamH PySem.F.plainAttrs_str PySem.F.slot_str_join PySem.F.type_str_join (join_at (F.blk _).toFamH) snd_join (fun _ _ _ _ _ R r h => isS_ty R r h) de_str (da_cons (de_lst false (da_cons (de_callTy (F.blk _).toFamH (fun _ => call_strU) snd_strU (da_cons (de_var (i := 1) (fun _ => rfl) (fun _ => .inl rfl) (by decide) (by decide)) da_nil (fun _ => rfl)) (fun _ => rfl) T.z_str rfl (by decide) (by decide) (fun _ => rfl) (fun _ => rfl)) (da_cons (de_callTy (F.blk _).toFamH (fun _ => call_strU) snd_strU (da_cons (de_var (i := 2) (fun _ => rfl) (fun _ => .inl rfl) (by decide) (by decide)) da_nil (fun _ => rfl)) (fun _ => rfl) T.z_str rfl (by decide) (by decide) (fun _ => rfl) (fun _ => rfl)) (da_cons (de_callTy (F.blk _).toFamH (fun _ => call_strU) snd_strU (da_cons (de_var (i := 3) (fun _ => rfl) (fun _ => .inl rfl) (by decide) (by decide)) da_nil (fun _ => rfl)) (fun _ => rfl) T.z_str rfl (by decide) (by decide) (fun _ => rfl) (fun _ => rfl)) da_nil (fun _ => rfl)) (fun _ => rfl)) (fun _ => rfl))) da_nil (fun _ => rfl)) (fun _ => rfl) (fun _ => rfl) rfl (fun _ => rfl) (fun _ => rfl)) (by decide) (fun _ _ => rfl)) da_nil (fun _ => rfl)) (fun _ => rfl) (fun _ => rfl) rfl (fun _ => rfl) (fun _ => rfl))))
theorem B_table_text : FnB G 1 T.f_table_text T.d_table_text ["table"] (m_table_text G) := FnB.of T.F_table_text sc_table_text T.e_table_text
theorem P_table_text : FnP G 1 T.f_table_text (mp_table_text G) := T.B_table_text.pos T.b_table_text
theorem e_law : ∀ E, DSs (FnX G 7 ["_law_script", "_law_source_here", "_law_turn", "_law_sizes_here", "_law_plan", "_law_entries", "_law_wording_here", "_law_step", "_law_bent_here", "_law_thing"] "law" (defScope s_law) T.f_law E) G (fun _ => E) (defBody s_law) (c_law G) := fun E => by
  have F := fnX_fam (G := G) (k := 7) (qual := "law") (f := T.f_law) sc_law E
  exact (dss_cons (ds_set F.toFamH (i := 1) (fun _ => rfl) (fun _ => .inl rfl) (fun _ => .inr rfl) (de_callP F T.P__law_source (by decide) (da_cons (de_var (i := 0) (fun _ => rfl) (fun _ => .inl rfl) (by decide) (by decide)) da_nil (fun _ => rfl)) (fun _ => rfl) T.g__law_source T.k__law_source (by decide) (fun _ => rfl) (fun _ => rfl)) (fun _ => rfl))
  (dss_cons (ds_for F (di_rng1 F.toFamH (da_cons de_int da_nil (fun _ => rfl)) (fun _ => rfl) T.z_range (fun _ => rfl)) (dg_name F.toFamH (i := 2) (fun _ => rfl) (fun _ => .inl rfl) (fun _ => .inr rfl)) (dss_cons (ds_set F.toFamH (i := 3) (fun _ => rfl) (fun _ => .inl rfl) (fun _ => .inr rfl) (de_callP F T.P__law_sizes (by decide) (da_cons (de_var (i := 1) (fun _ => rfl) (fun _ => .inl rfl) (by decide) (by decide)) da_nil (fun _ => rfl)) (fun _ => rfl) T.g__law_sizes T.k__law_sizes (by decide) (fun _ => rfl) (fun _ => rfl)) (fun _ => rfl))
  (dss_cons (ds_par F (i := 4) (j := 5) (fun _ => rfl) (fun _ => rfl) (by decide) (fun _ => rfl) (fun _ => rfl) (de_make false F T.P_Scheme__init_ (by decide) (c := 0) T.mk_Scheme (da_cons (de_ix F.toFamH (de_var (i := 3) (fun _ => rfl) (fun _ => .inl rfl) (by decide) (by decide)) de_int (fun _ _ => rfl)) (da_cons (de_ix F.toFamH (de_var (i := 3) (fun _ => rfl) (fun _ => .inl rfl) (by decide) (by decide)) de_int (fun _ _ => rfl)) (da_cons (de_ix F.toFamH (de_var (i := 3) (fun _ => rfl) (fun _ => .inl rfl) (by decide) (by decide)) de_int (fun _ _ => rfl)) da_nil (fun _ => rfl)) (fun _ => rfl)) (fun _ => rfl)) (fun _ => rfl) T.g_Scheme (by decide) (fun _ => rfl) (fun _ => rfl)) (de_callP F T.P__law_any_table (by decide) (da_cons (de_var (i := 1) (fun _ => rfl) (fun _ => .inl rfl) (by decide) (by decide)) (da_cons (de_var (i := 3) (fun _ => rfl) (fun _ => .inl rfl) (by decide) (by decide)) da_nil (fun _ => rfl)) (fun _ => rfl)) (fun _ => rfl) T.g__law_any_table T.k__law_any_table (by decide) (fun _ => rfl) (fun _ => rfl)) (fun _ => rfl) (fun _ => rfl) (fun _ => rfl) (fun _ => rfl))
  (dss_cons (ds_set F.toFamH (i := 6) (fun _ => rfl) (fun _ => .inl rfl) (fun _ => .inr rfl) (de_callP F T.P__law_wording (by decide) (da_cons (de_var (i := 5) (fun _ => rfl) (fun _ => .inl rfl) (by decide) (by decide)) da_nil (fun _ => rfl)) (fun _ => rfl) T.g__law_wording T.k__law_wording (by decide) (fun _ => rfl) (fun _ => rfl)) (fun _ => rfl))
  (dss_cons (ds_if (dt_cmp (neD_at F.toFamH) snd_ne (de_callB F.toFamH (call_reprC F.toFamH) snd_repr (da_cons (de_lst false (da_cons (de_callP F T.P_table_text (by decide) (da_cons (de_var (i := 5) (fun _ => rfl) (fun _ => .inl rfl) (by decide) (by decide)) da_nil (fun _ => rfl)) (fun _ => rfl) T.g_table_text T.k_table_text (by decide) (fun _ => rfl) (fun _ => rfl)) (da_cons (de_callK0 (x := "table_text") F T.B_table_text (by decide) (fun _ => rfl) T.g_table_text T.k_table_text T.kb_table_text_0_table (gP_ok (perm := [0]) rfl) (dk_cons (de_var (i := 5) (fun _ => rfl) (fun _ => .inl rfl) (by decide) (by decide)) dk_nil) (fun _ => rfl) (fun _ => rfl) (by decide) (fun _ => rfl)) da_nil (fun _ => rfl)) (fun _ => rfl))) da_nil (fun _ => rfl)) (fun _ => rfl) T.z_repr rfl (by decide) (by decide) (fun _ => rfl) (fun _ => rfl)) (de_callB F.toFamH (call_reprC F.toFamH) snd_repr (da_cons (de_lst false (da_cons (de_var (i := 6) (fun _ => rfl) (fun _ => .inl rfl) (by decide) (by decide)) (da_cons (de_var (i := 6) (fun _ => rfl) (fun _ => .inl rfl) (by decide) (by decide)) da_nil (fun _ => rfl)) (fun _ => rfl))) da_nil (fun _ => rfl)) (fun _ => rfl) T.z_repr rfl (by decide) (by decide) (fun _ => rfl) (fun _ => rfl)) rfl) (dss_one (ds_ret de_bl)) dss_nil)
  (dss_cons (ds_if (dt_cmp (neD_at F.toFamH) snd_ne (de_callB F.toFamH (call_reprC F.toFamH) snd_repr (da_cons (de_callP F T.P__law_heard (by decide) (da_cons (de_var (i := 4) (fun _ => rfl) (fun _ => .inl rfl) (by decide) (by decide)) (da_cons (de_var (i := 6) (fun _ => rfl) (fun _ => .inl rfl) (by decide) (by decide)) (da_cons (de_cmp (eqD_at F.toFamH) snd_eq (de_var (i := 2) (fun _ => rfl) (fun _ => .inl rfl) (by decide) (by decide)) de_int rfl) da_nil (fun _ => rfl)) (fun _ => rfl)) (fun _ => rfl)) (fun _ => rfl) T.g__law_heard T.k__law_heard (by decide) (fun _ => rfl) (fun _ => rfl)) da_nil (fun _ => rfl)) (fun _ => rfl) T.z_repr rfl (by decide) (by decide) (fun _ => rfl) (fun _ => rfl)) (de_callB F.toFamH (call_reprC F.toFamH) snd_repr (da_cons (de_var (i := 5) (fun _ => rfl) (fun _ => .inl rfl) (by decide) (by decide)) da_nil (fun _ => rfl)) (fun _ => rfl) T.z_repr rfl (by decide) (by decide) (fun _ => rfl) (fun _ => rfl)) rfl) (dss_one (ds_ret de_bl)) dss_nil)
  (dss_cons (ds_for F (di_rng1 F.toFamH (da_cons de_int da_nil (fun _ => rfl)) (fun _ => rfl) T.z_range (fun _ => rfl)) (dg_name F.toFamH (i := 7) (fun _ => rfl) (fun _ => .inl rfl) (fun _ => .inr rfl)) (dss_cons (ds_set F.toFamH (i := 8) (fun _ => rfl) (fun _ => .inl rfl) (fun _ => .inr rfl) (de_callP F T.P__law_bent (by decide) (da_cons (de_var (i := 1) (fun _ => rfl) (fun _ => .inl rfl) (by decide) (by decide)) (da_cons (de_var (i := 3) (fun _ => rfl) (fun _ => .inl rfl) (by decide) (by decide)) (da_cons (de_var (i := 6) (fun _ => rfl) (fun _ => .inl rfl) (by decide) (by decide)) da_nil (fun _ => rfl)) (fun _ => rfl)) (fun _ => rfl)) (fun _ => rfl) T.g__law_bent T.k__law_bent (by decide) (fun _ => rfl) (fun _ => rfl)) (fun _ => rfl))
  (dss_cons (ds_if (dt_cmp (eqD_at F.toFamH) snd_eq (de_callP F T.P__law_random (by decide) (da_cons (de_var (i := 1) (fun _ => rfl) (fun _ => .inl rfl) (by decide) (by decide)) (da_cons de_int da_nil (fun _ => rfl)) (fun _ => rfl)) (fun _ => rfl) T.g__law_random T.k__law_random (by decide) (fun _ => rfl) (fun _ => rfl)) de_int rfl) (dss_one (ds_set F.toFamH (i := 8) (fun _ => rfl) (fun _ => .inl rfl) (fun _ => .inr rfl) (de_callP F T.P__law_bent (by decide) (da_cons (de_var (i := 1) (fun _ => rfl) (fun _ => .inl rfl) (by decide) (by decide)) (da_cons (de_var (i := 3) (fun _ => rfl) (fun _ => .inl rfl) (by decide) (by decide)) (da_cons (de_var (i := 8) (fun _ => rfl) (fun _ => .inl rfl) (by decide) (by decide)) da_nil (fun _ => rfl)) (fun _ => rfl)) (fun _ => rfl)) (fun _ => rfl) T.g__law_bent T.k__law_bent (by decide) (fun _ => rfl) (fun _ => rfl)) (fun _ => rfl))) dss_nil)
  (dss_one (ds_if (dt_not (dt_val (de_callP F T.P__law_right (by decide) (da_cons (de_var (i := 4) (fun _ => rfl) (fun _ => .inl rfl) (by decide) (by decide)) (da_cons (de_var (i := 3) (fun _ => rfl) (fun _ => .inl rfl) (by decide) (by decide)) (da_cons (de_var (i := 8) (fun _ => rfl) (fun _ => .inl rfl) (by decide) (by decide)) da_nil (fun _ => rfl)) (fun _ => rfl)) (fun _ => rfl)) (fun _ => rfl) T.g__law_right T.k__law_right (by decide) (fun _ => rfl) (fun _ => rfl)) (fun _ _ => rfl))) (dss_one (ds_ret de_bl)) dss_nil)))) owns_fn (fun _ _ => rfl))
  (dss_one (ds_for F (di_seq F.toFamH (de_tup (da_cons de_str (da_cons de_str (da_cons de_str (da_cons de_str (da_cons de_str (da_cons de_non (da_cons de_bl (da_cons de_int (da_cons (de_tup da_nil) (da_cons (de_lst false da_nil) (da_cons (de_var (i := 5) (fun _ => rfl) (fun _ => .inl rfl) (by decide) (by decide)) (da_cons (de_lst false (da_cons de_str da_nil (fun _ => rfl))) (da_cons (de_dK0 false) (da_cons (de_dispK false F (dps_cons de_str de_str dps_nil) rfl rfl (List.cons_ne_nil _ _) (by decide)) da_nil (fun _ => rfl)) (fun _ => rfl)) (fun _ => rfl)) (fun _ => rfl)) (fun _ => rfl)) (fun _ => rfl)) (fun _ => rfl)) (fun _ => rfl)) (fun _ => rfl)) (fun _ => rfl)) (fun _ => rfl)) (fun _ => rfl)) (fun _ => rfl)) (fun _ => rfl)))) (dg_name F.toFamH (i := 9) (fun _ => rfl) (fun _ => .inl rfl) (fun _ => .inr rfl)) (dss_one (ds_if (dt_not (dt_val (de_callP F T.P__law_right (by decide) (da_cons (de_var (i := 4) (fun _ => rfl) (fun _ => .inl rfl) (by decide) (by decide)) (da_cons (de_var (i := 3) (fun _ => rfl) (fun _ => .inl rfl) (by decide) (by decide)) (da_cons (de_var (i := 9) (fun _ => rfl) (fun _ => .inl rfl) (by decide) (by decide)) da_nil (fun _ => rfl)) (fun _ => rfl)) (fun _ => rfl)) (fun _ => rfl) T.g__law_right T.k__law_right (by decide) (fun _ => rfl) (fun _ => rfl)) (fun _ _ => rfl))) (dss_one (ds_ret de_bl)) dss_nil)) owns_fn (fun _ _ => rfl))))))))) owns_fn (fun _ _ => rfl))
  (dss_one (ds_ret de_bl))))
theorem B_law : FnB G 8 T.f_law T.d_law ["_law_script"] (m_law G) := FnB.of T.F_law sc_law T.e_law
end Txt
end K52
set_option Elab.async false
set_option linter.all false
set_option maxRecDepth 100000
set_option maxHeartbeats 4000000
/-! DP0: mirrors computed by simp -/
namespace DL
open PySem PySem.Spec PyProof.Rows L2
section
variable {ρ : Env} {S : Sto}
@[simp] theorem e_var_ok {i : Nat} {d : D} (h : ρ[i]? = some (some d)) : c_var i ρ S = .ok d S := by unfold c_var; rw [h]
@[simp] theorem e_d {d : D} : c_d d ρ S = .ok d S := rfl
@[simp] theorem e_op {p : D → D → Sto → Res D} {a b : ECode} : c_op p a b ρ S = (a ρ S).bind fun x S1 => (b ρ S1).bind fun y S2 => p x y S2 := rfl
@[simp] theorem e_un {p : D → Sto → Res D} {a : ECode} : c_un p a ρ S = (a ρ S).bind fun x S1 => p x S1 := rfl
@[simp] theorem e_test {a : ECode} : c_test a ρ S = (a ρ S).bind asB := rfl
@[simp] theorem e_asB {b : Bool} : asB (.bl b) S = .ok b S := rfl
@[simp] theorem e_and {a b : TCode} : c_and a b ρ S = (a ρ S).bind fun c S1 => if c = true then b ρ S1 else .ok false S1 := rfl
@[simp] theorem e_or {a b : TCode} : c_or a b ρ S = (a ρ S).bind fun c S1 => if c = true then .ok true S1 else b ρ S1 := rfl
@[simp] theorem e_not {a : TCode} : c_not a ρ S = (a ρ S).bind fun c S1 => .ok (!c) S1 := rfl
@[simp] theorem e_if {c : TCode} {a b : ECode} : c_if c a b ρ S = (c ρ S).bind fun k S1 => if k = true then a ρ S1 else b ρ S1 := rfl
@[simp] theorem e_andV {a b : ECode} : c_andV a b ρ S = (a ρ S).bind fun x S1 => (asB x S1).bind fun c S2 => if c = true then b ρ S2 else .ok (.bl false) S2 := rfl
@[simp] theorem e_orV {a b : ECode} : c_orV a b ρ S = (a ρ S).bind fun x S1 => (asB x S1).bind fun c S2 => if c = true then .ok (.bl true) S2 else b ρ S2 := rfl
@[simp] theorem e_notV {a : ECode} : c_notV a ρ S = (a ρ S).bind fun x S1 => (asB x S1).bind fun c S2 => .ok (.bl (!c)) S2 := rfl
@[simp] theorem e_chain {p p' : D → D → Sto → Res D} {a b c : ECode} : c_chain p p' a b c ρ S = (a ρ S).bind fun x S1 => (b ρ S1).bind fun y S2 => (p x y S2).bind fun z S3 => (asB z S3).bind fun k S4 =>
  if k = true then (c ρ S4).bind fun w S5 => p' y w S5 else .ok (.bl false) S4 := rfl
@[simp] theorem e_nil : c_nil ρ S = .ok [] S := rfl
@[simp] theorem e_cons {a : ECode} {r : ACode} : c_cons a r ρ S = (a ρ S).bind fun x S1 => (r ρ S1).bind fun xs S2 => .ok (x :: xs) S2 := rfl
@[simp] theorem e_tup {a : ACode} : c_tup a ρ S = (a ρ S).bind p_tup := rfl
@[simp] theorem e_lst {b : Bool} {a : ACode} : c_lst b a ρ S = (a ρ S).bind (p_lst b) := rfl
@[simp] theorem e_cb {p : List D → Sto → Res D} {a : ACode} : c_cb p a ρ S = (a ρ S).bind p := rfl
@[simp] theorem e_callK {n m' : Nat} {g : List D → List D → List D} {m : List D → Sto → Res D} {a b : ACode} : c_callK n m' g m a b ρ S = (a ρ S).bind fun ds S1 => (b ρ S1).bind fun es S2 => if ds.length = n ∧ es.length = m' then m (g ds es) S2 else .stuck := rfl
@[simp] theorem e_meth {g : D → Sto → Bool} {p : D → List D → Sto → Res D} {o : ECode} {a : ACode} : c_meth g p o a ρ S = (o ρ S).bind fun x S1 => if g x S1 = true then (a ρ S1).bind fun ds S2 => p x ds S2 else .stuck := rfl
@[simp] theorem e_methP {c : Nat} {m : List D → Sto → Res D} {o : ECode} {a : ACode} : c_methP c m o a ρ S = (o ρ S).bind fun x S1 => if clsOf x S1 = some c then (a ρ S1).bind fun ds S2 => m (x :: ds) S2 else .stuck := rfl
@[simp] theorem e_smeth {C : Addr} {m : List D → Sto → Res D} {o : ECode} {a : ACode} : c_smeth C m o a ρ S = (o ρ S).bind fun x S1 => if isCon C x = true then (a ρ S1).bind m else .stuck := rfl
@[simp] theorem e_cval {C : Addr} {d : D} {o : ECode} : c_cval C d o ρ S = (o ρ S).bind fun x S1 => if isCon C x = true then .ok d S1 else .stuck := rfl
@[simp] theorem isCon_self {C : Addr} : isCon C (.con C) = true := decide_eq_true rfl
@[simp] theorem e_fld {c i : Nat} {a : ECode} : c_fld c i a ρ S = (a ρ S).bind fun d S1 => if clsOf d S1 = some c then match fldsOf d S1 with
  | some fs => match fs[i]? with
    | some x => .ok x S1
    | none => .stuck
  | none => .stuck else .stuck := rfl
@[simp] theorem e_prop {c : Nat} {m : List D → Sto → Res D} {a : ECode} : c_prop c m a ρ S = (a ρ S).bind fun d S1 => if clsOf d S1 = some c then (m [d] S1).bindN .ok else .stuck := rfl
@[simp] theorem e_star {a : ECode} {r : ACode} : c_star a r ρ S = (a ρ S).bind fun x S1 => match itemsOf x S1 with
  | some ds => (r ρ S1).bind fun es S2 => .ok (ds ++ es) S2
  | none => .stuck := rfl
@[simp] theorem e_ps0 : c_ps0 ρ S = .ok [] S := rfl
@[simp] theorem e_ps {k v : ECode} {r : Env → Sto → Res (List (D × D))} : c_ps k v r ρ S = (k ρ S).bind fun x S1 => (v ρ S1).bind fun y S2 => (r ρ S2).bind fun ps S3 => .ok ((x, y) :: ps) S3 := rfl
@[simp] theorem e_dispK {b : Bool} {r : Env → Sto → Res (List (D × D))} : c_dispK b r ρ S = (r ρ S).bind (p_dispK b) := rfl
@[simp] theorem e_dispT {b : Bool} {r : Env → Sto → Res (List (D × D))} : c_dispT b r ρ S = (r ρ S).bind (p_dispT b) := rfl
@[simp] theorem e_dK0 {b : Bool} : c_dK0 b ρ S = p_dK b [] S := rfl
@[simp] theorem e_dT0 {b : Bool} : c_dT0 b ρ S = p_dT b [] S := rfl
@[simp] theorem e_frz {a : ECode} : c_frz a ρ S = (a ρ S).bind frz := rfl
@[simp] theorem e_no : c_no ρ S = .ok none S := rfl
@[simp] theorem e_part {a : ECode} : c_part a ρ S = (a ρ S).bind fun d S1 => match d with
  | .int i => .ok (some i) S1
  | _ => .stuck := rfl
@[simp] theorem e_sl {b : Bool} {a : ECode} {l h : Env → Sto → Res (Option Int)} : c_sl b a l h ρ S = (a ρ S).bind fun x S1 => (l ρ S1).bind fun lo S2 => (h ρ S2).bind fun hi S3 => p_sl b x lo hi S3 := rfl
-- statements
@[simp] theorem s_set {i : Nat} {a : ECode} : c_set i a ρ S = (a ρ S).bind fun d S1 => .ok (.nx (ρ.set i (some d))) S1 := rfl
@[simp] theorem s_asg {g : D → Env → Sto → Res Env} {a : ECode} : c_asg g a ρ S = (a ρ S).bind fun d S1 => (g d ρ S1).bind fun ρ1 S2 => .ok (.nx ρ1) S2 := rfl
@[simp] theorem s_nx : c_nx ρ S = .ok (.nx ρ) S := rfl
@[simp] theorem s_seq {a b : SCode} : c_seq a b ρ S = (a ρ S).bind fun f S1 => match f with
  | .nx ρ1 => b ρ1 S1
  | o => .ok o S1 := rfl
@[simp] theorem s_expr {a : ECode} : c_expr a ρ S = (a ρ S).bind fun _ S1 => .ok (.nx ρ) S1 := rfl
@[simp] theorem s_ret {a : ECode} : c_ret a ρ S = (a ρ S).bind fun d S1 => .ok (.rt d) S1 := rfl
@[simp] theorem s_retN : c_retN ρ S = .ok (.rt .non) S := rfl
@[simp] theorem s_brk : c_brk ρ S = .ok (.bk ρ) S := rfl
@[simp] theorem s_cont : c_cont ρ S = .ok (.ct ρ) S := rfl
@[simp] theorem s_stuck : c_stuck ρ S = .stuck := rfl
@[simp] theorem s_ifS {c : TCode} {a b : SCode} : c_ifS c a b ρ S = (c ρ S).bind fun k S1 => if k = true then a ρ S1 else b ρ S1 := rfl
@[simp] theorem s_aug {i : Nat} {p : D → D → Sto → Res D} {a : ECode} : c_aug i p a ρ S = (c_var i ρ S).bind fun x S0 => (a ρ S0).bind fun y S1 => (p x y S1).bind fun z S2 => .ok (.nx (ρ.set i (some z))) S2 := rfl
@[simp] theorem s_par {i j : Nat} {a b : ECode} : c_par i j a b ρ S = (a ρ S).bind fun x S1 => (b ρ S1).bind fun y S2 => .ok (.nx ((ρ.set i (some x)).set j (some y))) S2 := rfl
@[simp] theorem s_par3 {i j l : Nat} {a b c : ECode} : c_par3 i j l a b c ρ S = (a ρ S).bind fun x S1 => (b ρ S1).bind fun y S2 => (c ρ S2).bind fun z S3 => .ok (.nx (((ρ.set i (some x)).set j (some y)).set l (some z))) S3 := rfl
@[simp] theorem s_setI {o i v : ECode} : c_setI o i v ρ S = (v ρ S).bind fun z S0 => (o ρ S0).bind fun x S1 => (i ρ S1).bind fun y S2 => (p_setI x y z S2).bind fun _ S3 => .ok (.nx ρ) S3 := rfl
@[simp] theorem s_fldS {c i : Nat} {o v : ECode} : c_fldS c i o v ρ S = (v ρ S).bind fun z S0 => (o ρ S0).bind fun x S1 => (p_setF c i x z S1).bind fun _ S2 => .ok (.nx ρ) S2 := rfl
@[simp] theorem g_name_eq {i : Nat} {d : D} : g_name i d ρ S = .ok (ρ.set i (some d)) S := rfl
@[simp] theorem g_nil_eq : g_nil [] ρ S = .ok ρ S := rfl
@[simp] theorem g_cons_eq {a : D → Env → Sto → Res Env} {r : List D → Env → Sto → Res Env} {d : D} {ds : List D} : g_cons a r (d :: ds) ρ S = (a d ρ S).bind fun ρ1 S1 => r ds ρ1 S1 := rfl
@[simp] theorem g_tup_eq {n : Nat} {r : List D → Env → Sto → Res Env} {ds : List D} : g_tup n r (.tup ds) ρ S = if ds.length = n then r ds ρ S else .stuck := rfl
-- operators
@[simp] theorem v_add {b : Bool} {i j : Int} : p_add b (.int i) (.int j) S = .ok (.int (i + j)) S := rfl
@[simp] theorem v_addI {i j : Int} : p_addI (.int i) (.int j) S = .ok (.int (i + j)) S := rfl
@[simp] theorem v_sub {i j : Int} : p_sub (.int i) (.int j) S = .ok (.int (i - j)) S := rfl
@[simp] theorem v_mul {b : Bool} {i j : Int} : p_mul b (.int i) (.int j) S = if CMulW i j then .ok (.int (i * j)) S else .stuck := rfl
@[simp] theorem v_fdiv {i j : Int} : p_fdiv (.int i) (.int j) S = if CDivW i j then .ok (.int (i / j)) S else .stuck := rfl
@[simp] theorem v_mod {i j : Int} : p_mod (.int i) (.int j) S = if 0 < j then .ok (.int (i % j)) S else .stuck := rfl
@[simp] theorem v_pow {i j : Int} : p_pow (.int i) (.int j) S = if CPow i j then .ok (.int (i ^ j.toNat)) S else .stuck := rfl
@[simp] theorem v_neg {i : Int} : p_neg (.int i) S = .ok (.int (-i)) S := rfl
@[simp] theorem v_lt {i j : Int} : p_lt (.int i) (.int j) S = .ok (.bl (decide (i < j))) S := rfl
@[simp] theorem v_le {i j : Int} : p_le (.int i) (.int j) S = .ok (.bl (decide (i ≤ j))) S := rfl
@[simp] theorem v_gt {i j : Int} : p_gt (.int i) (.int j) S = .ok (.bl (decide (j < i))) S := rfl
@[simp] theorem v_ge {i j : Int} : p_ge (.int i) (.int j) S = .ok (.bl (decide (j ≤ i))) S := rfl
@[simp] theorem v_eq {n : Bool} {i j : Int} : p_eq n (.int i) (.int j) S = .ok (.bl (if n = true then !decide (i = j) else decide (i = j))) S := by
  cases n with
  | true => exact congrArg (fun b => Res.ok (D.bl b) S) (show (!PyData.eqv (.int i) (.int j)) = _ from by simp only [PyData.eqv, if_true]; rfl)
  | false => exact congrArg (fun b => Res.ok (D.bl b) S) (show (PyData.eqv (.int i) (.int j)) = _ from by simp only [PyData.eqv]; rfl)
@[simp] theorem v_isN {n : Bool} {x : D} : p_isN n x .non S = .ok (.bl (if n = true then !isNon x else isNon x)) S := by cases x <;> rfl
@[simp] theorem v_tupcat {b : Bool} {xs ys : List D} : p_add b (.tup xs) (.tup ys) S = p_tup (xs ++ ys) S := rfl
end
end DL
set_option Elab.async false
set_option linter.all false
set_option maxRecDepth 100000
set_option maxHeartbeats 4000000
/-! DP1: the deck of the laws that draw by numbers -/
namespace DL
open PySem PySem.Spec PyProof.Rows L2
theorem cmul {i j : Int} (h1 : -(2 ^ 64) < i) (h2 : i < 2 ^ 64) (h3 : -(2 ^ 64) < j) (h4 : j < 2 ^ 64) : CMulW i j :=
  wide_mul (a := 64) (b := 64) (by omega) (by omega) (by decide) (by decide) (by decide)
theorem cdiv {i j : Int} (h : 0 < j) (h2 : j < 2 ^ 64) : CDivW i j := wide_div (b := 64) h (by omega) (by decide) (by decide)
theorem fin_same {S S' : Sto} {d : D} (h : S'.length = S.length) : fin S d S' = .ok d S' := by unfold fin; rw [if_pos h]
/-- the cells of the call's own are forgotten -/
theorem fin_cut {S S' T : Sto} {d : D} (hl : S'.length = S.length) (ht : T ≠ []) (hc : ∀ (n : Nat) (c : Option Cell), S'[n]? = some c → S[n]? = some c ∨ cellLt S.length c = true) (hd : refsLt S.length d = true) : fin S d (S' ++ T) = .ok d S' := by
  have hT : T.length ≠ 0 := fun e => ht (List.length_eq_zero_iff.mp e)
  have hk : cutOk S (S' ++ T) := fun n c hn e => by
    rw [List.getElem?_append_left (by omega)] at e
    exact hc n c e
  unfold fin
  rw [if_neg (by rw [List.length_append]; omega), if_pos ⟨hk, hd⟩, ← hl, List.take_left]
/-- what a def's body leaves -/
noncomputable def ret (S : Sto) (r : Res Flo) : Res D := match r with
  | .ok (.rt d) S' => fin S d S'
  | .ok (.nx _) S' => fin S .non S'
  | .ex k d S' => finX S k d S'
  | _ => .stuck
theorem fnR_eq {n : Nat} {c : SCode} {ds : List D} {S : Sto} : fnR n c ds S = ret S (c (ds.map some ++ List.replicate (n - ds.length) none) S) := rfl
@[simp] theorem ret_rt {S S' : Sto} {d : D} : ret S (.ok (.rt d) S') = fin S d S' := rfl
@[simp] theorem ret_nx {S S' : Sto} {ρ : Env} : ret S (.ok (.nx ρ) S') = fin S .non S' := rfl
def dk (its : List Int) (seed cnt : Int) (T : Sto) : Sto := some (.lst (its.map .int)) :: some (.lst [.ref 0, .int seed, .int cnt]) :: T
def Dk (n : Nat) (T S : Sto) : Prop := ∃ its seed cnt, S = dk its seed cnt T ∧ its.length ≤ 63 ∧ 0 ≤ seed ∧ seed < 2 ^ 32 ∧ 0 ≤ cnt ∧ cnt ≤ n
section
variable {its : List Int} {seed cnt b : Int} {T : Sto} {ρ : Env}
theorem p_lst_f {S : Sto} : p_lst false [] S = .ok (.lst []) S := rfl
theorem dk_ix2 : p_ix (.ref 1) (.int 2) (dk its seed cnt T) = .ok (.int cnt) (dk its seed cnt T) := rfl
theorem dk_ix1 : p_ix (.ref 1) (.int 1) (dk its seed cnt T) = .ok (.int seed) (dk its seed cnt T) := rfl
theorem dk_ix0 : p_ix (.ref 1) (.int 0) (dk its seed cnt T) = .ok (.ref 0) (dk its seed cnt T) := rfl
theorem dk_set2 {v : Int} : p_setI (.ref 1) (.int 2) (.int v) (dk its seed cnt T) = .ok () (dk its seed v T) := rfl
theorem flat_ints : ∀ l : List Int, flatL (l.map D.int) = some (l.map PyData.int)
  | [] => rfl
  | x :: l => by rw [List.map_cons, flatL, flat, flat_ints l]; rfl
theorem lay_ints : ∀ l : List Int, PyData.canLayAll0 (l.map PyData.int) = true
  | [] => rfl
  | x :: l => by rw [List.map_cons, PyData.canLayAll0, PyData.canLay0, lay_ints l]; rfl
theorem depth_ints : ∀ l : List Int, PyData.depthAll (l.map PyData.int) = 0
  | [] => rfl
  | x :: l => by rw [List.map_cons, PyData.depthAll, PyData.depth, depth_ints l]; rfl
theorem dk_ne : p_eq true (.ref 0) (.lst []) (dk its seed cnt T) = .ok (.bl (!its.isEmpty)) (dk its seed cnt T) := by
  have h : pyOf (dk its seed cnt T) (.ref 0) = some (.list (its.map PyData.int)) := by
    show (flatL (its.map D.int)).map PyData.list = _
    rw [flat_ints]; rfl
  have h2 : ∀ its : List Int, SeqAt.shaped (.list (its.map PyData.int)) = true := by
    intro its
    unfold SeqAt.shaped
    rw [PyData.canLay0, lay_ints, PyData.depth, depth_ints]
    rfl
  unfold p_eq
  rw [h]
  show (if _ then _ else _) = _
  rw [if_pos ⟨h2 its, rfl⟩]
  cases its <;> rfl
theorem dk_pop {x : Int} : p_pop (.ref 0) [] (dk (its ++ [x]) seed cnt T) = .ok (.int x) (dk its seed cnt T) := by
  unfold p_pop
  show (match ((its ++ [x]).map D.int)[((its ++ [x]).map D.int).length - 1]? with
      | some y => Res.ok y ((dk (its ++ [x]) seed cnt T).set 0 (some (.lst ((its ++ [x]).map D.int).dropLast)))
      | none => .stuck) = _
  have e : ((its ++ [x]).map D.int)[((its ++ [x]).map D.int).length - 1]? = some (.int x) := by simp
  rw [e]
  show Res.ok _ _ = _
  simp [dk]
theorem dk_isL : isL (.ref 0) (dk its seed cnt T) = true := rfl
theorem dk_app {x : Int} (h : its.length < 100000) : p_append (.ref 0) [.int x] (dk its seed cnt T) = .ok .non (dk (its ++ [x]) seed cnt T) := by
  unfold p_append
  show (if fits ((its.map D.int).length + 1) = true then Res.ok D.non ((dk its seed cnt T).set 0 (some (.lst (its.map D.int ++ [.int x])))) else .stuck) = _
  rw [if_pos (show fits _ = true from decide_eq_true (by simp; omega))]
  simp [dk]
end
end DL
set_option Elab.async false
set_option linter.all false
set_option maxRecDepth 100000
set_option maxHeartbeats 4000000
/-! DP2: texts of data, loops -/
namespace DL
open PySem PySem.Spec PyProof.Rows L2
/-! ### texts -/
theorem sOk_app {a b : PySem.Str} (ha : PyData.strOk a = true) (hb : PyData.strOk b = true) : PyData.strOk (a ++ b) = true := by
  unfold PyData.strOk at *
  rw [PySem.Str.cps_append, Array.all_append, ha, hb]
  rfl
theorem sOk_of (x : String) : PyData.strOk (PySem.Str.ofString x) = true := by
  unfold PyData.strOk
  rw [PySem.Str.ofString_eq_toList]
  show Array.all (List.toArray _) _ = true
  rw [List.all_toArray, List.all_eq_true]
  intro c hc
  obtain ⟨ch, _, rfl⟩ := List.mem_map.mp hc
  have := ch.valid
  have h : ch.toNat < 0x110000 := by
    rcases this with h | h
    · exact Nat.lt_trans h (by decide)
    · exact h.2
  exact decide_eq_true h
theorem sOk_from : ∀ (ts : List PySem.Str) (k : Nat) (acc : PySem.Str), PyData.strOk acc = true → (∀ t ∈ ts, PyData.strOk t = true) → PyData.strOk (textFrom k acc ts) = true
  | [], _, _, h, _ => h
  | t :: ts, k, acc, h, ht => by
    unfold textFrom
    exact sOk_from ts (k + 1) _ (sOk_app (sOk_app h (sOk_of _)) (ht t (List.mem_cons_self ..))) fun u hu => ht u (List.mem_cons_of_mem _ hu)
theorem sOk_join (sep : PySem.Str) (hs : PyData.strOk sep = true) : ∀ ts : List PySem.Str, (∀ t ∈ ts, PyData.strOk t = true) → PyData.strOk (PySem.Str.join sep ts) = true
  | [], _ => by unfold PySem.Str.join PyData.strOk PySem.Str.empty; simp
  | [t], h => by
    have := h t (List.mem_cons_self ..)
    simpa [PySem.Str.join] using this
  | t :: u :: r, h => by
    have ih := sOk_join sep hs (u :: r) fun x hx => h x (List.mem_cons_of_mem _ hx)
    have h1 := h t (List.mem_cons_self ..)
    have e : PySem.Str.join sep (t :: u :: r) = t ++ sep ++ PySem.Str.join sep (u :: r) := by rw [PySem.Str.join]; exact fun e => by cases e
    rw [e]
    exact sOk_app (sOk_app h1 hs) ih
structure Fi (d w : Nat) (p : PyData) : Prop where
  lay : p.canLay0 = true
  sh : p.showable = true
  nd : p.hasDict = false
  dep : p.depth ≤ d
  lv : p.leavesShort 32 = true
  wt : p.weight ≤ w
  ok : PyData.strOk p.shown = true
structure Fis (d w : Nat) (ps : List PyData) : Prop where
  lay : PyData.canLayAll0 ps = true
  sh : PyData.showableAll ps = true
  nd : PyData.hasDictAll ps = false
  dep : PyData.depthAll ps ≤ d
  lv : PyData.leavesShortAll 32 ps = true
  wt : PyData.weightAll ps ≤ ps.length * (w + 1)
  ok : ∀ t ∈ PyData.shownAll ps, PyData.strOk t = true
theorem Fi.mono {d w d' w' : Nat} {p : PyData} (h : Fi d w p) (h1 : d ≤ d') (h2 : w ≤ w') : Fi d' w' p := ⟨h.lay, h.sh, h.nd, Nat.le_trans h.dep h1, h.lv, Nat.le_trans h.wt h2, h.ok⟩
theorem Fi.int {i : Int} (h : i.natAbs < 10 ^ 30) : Fi 0 100 (.int i) := by
  have hl : i.natAbs.log2 < 100 := by
    rcases Nat.eq_zero_or_pos i.natAbs with e | e
    · rw [e]; decide
    · exact (Nat.log2_lt (by omega)).mpr (Nat.lt_trans h (by decide))
  refine ⟨rfl, ?_, rfl, Nat.le_refl _, ?_, ?_, sOk_of _⟩
  · rw [PyData.showable]
    exact decide_eq_true (by omega)
  · rw [PyData.leavesShort, PyData.shown]
    refine decide_eq_true ?_
    rw [PySem.ofString_length]
    have := int_text_length_le10 (k := 30) (by decide) h
    omega
  · rw [PyData.weight]
    split <;> omega
theorem Fis.of {d w : Nat} : ∀ {ps : List PyData}, (∀ p ∈ ps, Fi d w p) → Fis d w ps
  | [], _ => ⟨rfl, rfl, rfl, Nat.zero_le _, rfl, Nat.zero_le _, fun t h => by cases h⟩
  | p :: ps, h => by
    have a := h p (List.mem_cons_self ..)
    have b := Fis.of (ps := ps) fun q hq => h q (List.mem_cons_of_mem _ hq)
    refine ⟨?_, ?_, ?_, ?_, ?_, ?_, fun t ht => ?_⟩
    · rw [PyData.canLayAll0, a.lay, b.lay]; rfl
    · rw [PyData.showableAll, a.sh, b.sh]; rfl
    · rw [PyData.hasDictAll, a.nd, b.nd]; rfl
    · rw [PyData.depthAll]; exact Nat.max_le.mpr ⟨a.dep, b.dep⟩
    · rw [PyData.leavesShortAll, a.lv, b.lv]; rfl
    · rw [PyData.weightAll, List.length_cons, Nat.succ_mul]
      have := a.wt
      have := b.wt
      omega
    · rw [PyData.shownAll] at ht
      rcases List.mem_cons.mp ht with rfl | ht
      · exact a.ok
      · exact b.ok t ht
theorem Fi.list {d w : Nat} {ps : List PyData} (h : ∀ p ∈ ps, Fi d w p) : Fi (d + 1) (ps.length * (w + 1)) (.list ps) := by
  have b := Fis.of h
  refine ⟨?_, ?_, ?_, ?_, ?_, ?_, ?_⟩
  · rw [PyData.canLay0]; exact b.lay
  · rw [PyData.showable]; exact b.sh
  · rw [PyData.hasDict]; exact b.nd
  · rw [PyData.depth]; have := b.dep; omega
  · rw [PyData.leavesShort]; exact b.lv
  · rw [PyData.weight]; exact b.wt
  · rw [PyData.shown]
    unfold listText
    exact sOk_app (sOk_from _ _ _ (sOk_of _) b.ok) (sOk_of _)
theorem Fi.tuple {d w : Nat} {ps : List PyData} (h : ∀ p ∈ ps, Fi d w p) : Fi (d + 1) (ps.length * (w + 1)) (.tuple ps) := by
  have b := Fis.of h
  refine ⟨?_, ?_, ?_, ?_, ?_, ?_, ?_⟩
  · rw [PyData.canLay0]; exact b.lay
  · rw [PyData.showable]; exact b.sh
  · rw [PyData.hasDict]; exact b.nd
  · rw [PyData.depth]; have := b.dep; omega
  · rw [PyData.leavesShort]; exact b.lv
  · rw [PyData.weight]; exact b.wt
  · rw [PyData.shown]
    unfold tupleText
    exact sOk_app (sOk_app (sOk_of _) (sOk_join _ (sOk_of _) _ b.ok)) (sOk_of _)
def isSeq : PyData → Bool
  | .list _ => true
  | .tuple _ => true
  | _ => false
theorem Fi.len {d w : Nat} {p : PyData} (h : Fi d w p) (hw : w ≤ 29000) : p.shown.length ≤ 1000000 := by
  have h1 := PyData.shown_le 32 (by decide) p h.lv
  have h2 := h.wt
  omega
theorem Fi.text {d w : Nat} {p : PyData} (h : Fi d w p) (hs : isSeq p = true) (hd : d ≤ 60) (hw : w ≤ 29000) : textOf p = some p.shown := by
  have hl := h.len hw
  have hd' := Nat.le_trans h.dep hd
  unfold textOf
  cases p with
  | list xs => exact if_pos ⟨h.sh, h.nd, hd', hl⟩
  | tuple xs => exact if_pos ⟨h.sh, h.nd, hd', hl⟩
  | _ => cases hs
theorem eq_str {S : Sto} {x y : PySem.Str} (hx : PyData.strOk x = true) (hy : PyData.strOk y = true) : p_eq false (.str x) (.str y) S = .ok (.bl (x == y)) S := by
  unfold p_eq
  have h : ∀ z : PySem.Str, PyData.strOk z = true → SeqAt.shaped (.str z) = true := fun z hz => by
    unfold SeqAt.shaped
    rw [PyData.canLay0, hz]
    rfl
  show (if _ then _ else _) = _
  rw [if_pos ⟨h x hx, h y hy⟩]
  simp only [Bool.false_eq_true, if_false, PyData.eqv]
/-! ### loops -/
theorem ev_v0 {d : D} {r : Env} {S : Sto} : c_var 0 (some d :: r) S = .ok d S := rfl
theorem ev_vs {n : Nat} {o : Option D} {r : Env} {S : Sto} : c_var (n + 1) (o :: r) S = c_var n r S := rfl
theorem ev_a1 {m : List D → Sto → Res D} {a : D} {S : Sto} : argsN 1 m [a] S = m [a] S := rfl
theorem ev_a2 {m : List D → Sto → Res D} {a b : D} {S : Sto} : argsN 2 m [a, b] S = m [a, b] S := rfl
theorem ev_a3 {m : List D → Sto → Res D} {a b c : D} {S : Sto} : argsN 3 m [a, b, c] S = m [a, b, c] S := rfl
theorem ev_a4 {m : List D → Sto → Res D} {a b c d : D} {S : Sto} : argsN 4 m [a, b, c, d] S = m [a, b, c, d] S := rfl
theorem e_yes {ρ : Env} {S : Sto} : c_yes ρ S = .ok true S := rfl
theorem ok_nil {S : Sto} {ds : List D} : Wk.ok ⟨ds, []⟩ S := fun p hp => by cases hp
end DL
set_option Elab.async false
set_option linter.all false
set_option maxRecDepth 100000
set_option maxHeartbeats 4000000
/-! DP3: tuples and lists of ints -/
namespace DL
open PySem PySem.Spec PyProof.Rows L2
abbrev iD (l : List Int) : List D := l.map D.int
abbrev tI (l : List Int) : D := .tup (l.map D.int)
section
variable {S : Sto}
theorem fits_le' {n : Nat} (h : n ≤ 1000000) : fits n = true := decide_eq_true h
theorem lst_f {ds : List D} (h : ds.length ≤ 1000000) : p_lst false ds S = .ok (.lst ds) S := by unfold p_lst; rw [if_pos (fits_le' h)]
theorem lst_t {ds : List D} (h : ds.length ≤ 1000000) : p_lst true ds S = .ok (.ref S.length) (S ++ [some (.lst ds)]) := by unfold p_lst; rw [if_pos (fits_le' h)]
theorem tup_f {ds : List D} (h : ds.length ≤ 1000000) : p_tup ds S = .ok (.tup ds) S := by unfold p_tup; rw [if_pos (fits_le' h)]
theorem list_tup {ds : List D} (h : ds.length ≤ 1000000) : p_list false [.tup ds] S = .ok (.lst ds) S := lst_f h
theorem list_lst {ds : List D} (h : ds.length ≤ 1000000) : p_list false [.lst ds] S = .ok (.lst ds) S := lst_f h
theorem tuple_lst {ds : List D} (h : ds.length ≤ 1000000) : p_tuple [.lst ds] S = .ok (.tup ds) S := tup_f h
theorem len_lst {ds : List D} : p_len [.lst ds] S = .ok (.int ds.length) S := rfl
theorem len_tup {ds : List D} : p_len [.tup ds] S = .ok (.int ds.length) S := rfl
theorem ixN_nn {n : Nat} {i : Int} (h : 0 ≤ i) (h2 : i < n) : ixN n i = some i.toNat := by
  unfold ixN
  rw [if_pos h, if_pos h2]
theorem ixN_neg {n : Nat} {i : Int} (h : i < 0) (h2 : -(n : Int) ≤ i) : ixN n i = some (i + n).toNat := by
  unfold ixN
  rw [if_neg (by omega), if_pos (by omega)]
theorem atD_nn {ds : List D} {i : Int} {d : D} (h : 0 ≤ i) (h2 : ds[i.toNat]? = some d) : atD ds i = some d := by
  have := (List.getElem?_eq_some_iff.mp h2).1
  unfold atD
  rw [ixN_nn h (by omega)]
  exact h2
theorem ix_lst {ds : List D} {i : Int} {d : D} (h : 0 ≤ i) (h2 : ds[i.toNat]? = some d) : p_ix (.lst ds) (.int i) S = .ok d S := by
  show (match atD ds i with
    | some d => Res.ok d S
    | none => .stuck) = _
  rw [atD_nn h h2]
theorem ix_tup {ds : List D} {i : Int} {d : D} (h : 0 ≤ i) (h2 : ds[i.toNat]? = some d) : p_ix (.tup ds) (.int i) S = .ok d S := by
  show (match atD ds i with
    | some d => Res.ok d S
    | none => .stuck) = _
  rw [atD_nn h h2]
theorem ok_one {x : D} {xs : List D} {items : List D} (h1 : itemsOf x S = some xs) : Wk.ok ⟨items, [(x, xs)]⟩ S := fun p hp => by
  rcases List.mem_cons.mp hp with rfl | hp
  · exact h1
  · cases hp
theorem it_lst {x : D} {xs : List D} {a : ECode} {ρ : Env} {S1 : Sto} (ha : a ρ S = .ok x S1) (h : itemsOf x S1 = some xs) : c_it a ρ S = .ok ⟨xs, [(x, xs)]⟩ S1 := by
  unfold c_it
  rw [ha]
  simp only [Res.bind_ok, h]
theorem rng1_eq {j : Int} {a : ACode} {ρ : Env} {S1 : Sto} (ha : a ρ S = .ok [.int j] S1) (h : -(2 ^ 62) ≤ j ∧ j < 2 ^ 62) : c_rng1 a ρ S = .ok ⟨rngD 0 j.toNat, []⟩ S1 := by
  unfold c_rng1
  rw [ha]
  simp only [Res.bind_ok]
  rw [if_pos (show smallI j = true from decide_eq_true h)]
theorem rng2_eq {i j : Int} {a : ACode} {ρ : Env} {S1 : Sto} (ha : a ρ S = .ok [.int i, .int j] S1) (hi : -(2 ^ 62) ≤ i ∧ i < 2 ^ 62) (h : -(2 ^ 62) ≤ j ∧ j < 2 ^ 62) : c_rng2 a ρ S = .ok ⟨rngD i (j - i).toNat, []⟩ S1 := by
  unfold c_rng2
  rw [ha]
  simp only [Res.bind_ok]
  rw [if_pos ⟨show smallI i = true from decide_eq_true hi, show smallI j = true from decide_eq_true h⟩]
/-! ### the deck -/
theorem Dk.mono {n m : Nat} {T S : Sto} (h : Dk n T S) (hm : n ≤ m) : Dk m T S := by
  obtain ⟨its, seed, cnt, e, h1, h2, h3, h4, h5⟩ := h
  exact ⟨its, seed, cnt, e, h1, h2, h3, h4, by omega⟩
end
end DL
set_option Elab.async false
set_option linter.all false
set_option maxRecDepth 100000
set_option maxHeartbeats 4000000
/-! DP4: what holds behind a mirror -/
namespace DL
open PySem PySem.Spec PyProof.Rows L2
structure wp {α : Type} (r : Res α) (Q : α → Sto → Prop) : Prop where
  get : match r with
    | .ok a S => Q a S
    | _ => False
section
variable {α β : Type} {S S' S0 S1 T : Sto} {ρ : Env} {d : D}
@[simp] theorem wp_ok {a : α} {Q : α → Sto → Prop} : wp (.ok a S) Q = Q a S := propext ⟨fun h => h.get, fun h => ⟨h⟩⟩
theorem wp_exF {c : Nat} {Q : α → Sto → Prop} : wp (.ex c d S) Q = False := propext ⟨fun h => h.get, fun h => h.elim⟩
theorem wp_stF {Q : α → Sto → Prop} : wp .stuck Q = False := propext ⟨fun h => h.get, fun h => h.elim⟩
@[simp] theorem wp_bind {r : Res α} {k : α → Sto → Res β} {Q : β → Sto → Prop} : wp (r.bind k) Q = wp r fun a S => wp (k a S) Q := by
  cases r with
  | ok a S => rw [Res.bind_ok, wp_ok]
  | ex c d S => rw [Res.bind_ex, wp_exF, wp_exF]
  | stuck => rw [Res.bind_stuck, wp_stF, wp_stF]
@[simp] theorem wp_bindN {r : Res α} {k : α → Sto → Res β} {Q : β → Sto → Prop} : wp (r.bindN k) Q = wp r fun a S => wp (k a S) Q := by
  cases r with
  | ok a S => rw [Res.bindN_ok, wp_ok]
  | ex c d S => rw [wp_exF]; exact wp_stF
  | stuck => rw [wp_stF]; exact wp_stF
theorem wp_eq {r : Res α} {a : α} {Q : α → Sto → Prop} (h : r = .ok a S) (q : Q a S) : wp r Q := by rw [h, wp_ok]; exact q
theorem wp_ex {r : Res α} {P : α → Sto → Prop} (h : wp r P) : ∃ a S, r = .ok a S ∧ P a S := by
  cases r with
  | ok a' S' => exact ⟨_, _, rfl, h.get⟩
  | ex _ _ _ => exact h.get.elim
  | stuck => exact h.get.elim
theorem eq_wp {r : Res α} {a : α} (h : wp r fun a' S' => a' = a ∧ S' = S) : r = .ok a S := by
  obtain ⟨a, S, e, rfl, rfl⟩ := wp_ex h
  exact e
theorem wp_of {r : Res α} {P Q : α → Sto → Prop} (h : wp r P) (k : ∀ a S, P a S → Q a S) : wp r Q := by
  obtain ⟨a, S, e, h⟩ := wp_ex h
  exact wp_eq e (k a S h)
/-! ### calls -/
def retQ (S0 : Sto) (Q : D → Sto → Prop) : Flo → Sto → Prop
  | .rt d, S' => wp (fin S0 d S') Q
  | .nx _, S' => wp (fin S0 .non S') Q
  | _, _ => False
@[simp] theorem wp_ret {r : Res Flo} {Q : D → Sto → Prop} : wp (ret S0 r) Q = wp r (retQ S0 Q) := by
  cases r with
  | ok f S' =>
    rw [wp_ok]
    cases f with
    | rt d => rfl
    | nx ρ => rfl
    | bk ρ => exact wp_stF
    | ct ρ => exact wp_stF
  | ex k d S' =>
    rw [wp_exF]
    show wp (finX S0 k d S') Q = False
    unfold finX
    split
    · exact wp_exF
    · split <;> exact wp_exF
  | stuck => rw [wp_stF]; exact wp_stF
@[simp] theorem retQ_rt {Q : D → Sto → Prop} : retQ S0 Q (.rt d) S' = wp (fin S0 d S') Q := rfl
@[simp] theorem retQ_nx {Q : D → Sto → Prop} : retQ S0 Q (.nx ρ) S' = wp (fin S0 .non S') Q := rfl
@[simp] theorem wp_fin {Q : D → Sto → Prop} : wp (fin S d S) Q = Q d S := by rw [fin_same rfl, wp_ok]
theorem fin_app (hd : refsLt S.length d = true) : fin S d (S ++ T) = .ok d S := by
  by_cases h : T = []
  · subst h
    rw [List.append_nil]
    exact fin_same rfl
  · exact fin_cut rfl h (fun j c hj => .inl hj) hd
theorem wp_fin_app {Q : D → Sto → Prop} (hd : refsLt S.length d = true) (h : Q d S) : wp (fin S d (S ++ T)) Q := by
  rw [fin_app hd]
  exact ⟨h⟩
theorem wp_fin_len {Q : D → Sto → Prop} (hl : S'.length = S.length) (h : Q d S') : wp (fin S d S') Q := by
  rw [fin_same hl]
  exact ⟨h⟩
theorem wp_fin_cut {Q : D → Sto → Prop} (hl : S'.length = S.length) (hc : ∀ (n : Nat) (c : Option Cell), S'[n]? = some c → S[n]? = some c ∨ cellLt S.length c = true) (hd : refsLt S.length d = true) (h : Q d S') : wp (fin S d (S' ++ T)) Q := by
  by_cases ht : T = []
  · subst ht
    rw [List.append_nil, fin_same hl]
    exact ⟨h⟩
  · rw [fin_cut hl ht hc hd]
    exact ⟨h⟩
/-! ### loops -/
def FQ (J : Env → Sto → Prop) (Q : Flo → Sto → Prop) : Flo → Sto → Prop
  | .nx ρ, S => J ρ S
  | .ct ρ, S => J ρ S
  | .bk ρ, S => Q (.nx ρ) S
  | .rt d, S => Q (.rt d) S
section
variable {J : Env → Sto → Prop} {Q : Flo → Sto → Prop}
@[simp] theorem FQ_nx : FQ J Q (.nx ρ) S = J ρ S := rfl
@[simp] theorem FQ_ct : FQ J Q (.ct ρ) S = J ρ S := rfl
@[simp] theorem FQ_bk : FQ J Q (.bk ρ) S = Q (.nx ρ) S := rfl
@[simp] theorem FQ_rt : FQ J Q (.rt d) S = Q (.rt d) S := rfl
theorem wp_forL {ok : Sto → Prop} {body : D → SCode} (e : α → D) (I : List α → Env → Sto → Prop) (hok : ∀ p ρ S, I p ρ S → ok S) (l : List α)
    (hs : ∀ pre x post ρ S, l = pre ++ x :: post → I pre ρ S → wp (body (e x) ρ S) (FQ (I (pre ++ [x])) Q)) (he : ∀ ρ S, I l ρ S → Q (.nx ρ) S) :
    ∀ (pre post : List α) ρ S, l = pre ++ post → I pre ρ S → wp (forL ok body (post.map e) ρ S) Q
  | pre, [], ρ, S, hl, h => by
    rw [List.append_nil] at hl
    subst hl
    rw [List.map_nil]
    unfold forL
    rw [if_pos (hok _ _ _ h)]
    exact ⟨he _ _ h⟩
  | pre, x :: post, ρ, S, hl, h => by
    rw [List.map_cons]
    unfold forL
    rw [if_pos (hok _ _ _ h), wp_bind]
    refine wp_of (hs pre x post ρ S hl h) fun f S1 hf => ?_
    cases f with
    | nx ρ1 => exact wp_forL e I hok l hs he (pre ++ [x]) post ρ1 S1 (by rw [hl]; simp) hf
    | ct ρ1 => exact wp_forL e I hok l hs he (pre ++ [x]) post ρ1 S1 (by rw [hl]; simp) hf
    | bk ρ1 => exact ⟨hf⟩
    | rt d => exact ⟨hf⟩
/-- a for over what a list of any kind is written as -/
theorem wp_for {ci : Env → Sto → Res Wk} {g : D → Env → Sto → Res Env} {b : SCode} {src : List (D × List D)} (l : List α) (e : α → D) (I : List α → Env → Sto → Prop) (hc : ci ρ S = .ok ⟨l.map e, src⟩ S1) (hok : ∀ p ρ S, I p ρ S → Wk.ok ⟨l.map e, src⟩ S) (h0 : I [] ρ S1)
    (hs : ∀ pre x post ρ S, l = pre ++ x :: post → I pre ρ S → wp ((g (e x) ρ S).bind b) (FQ (I (pre ++ [x])) Q)) (he : ∀ ρ S, I l ρ S → Q (.nx ρ) S) : wp (c_for ci g b ρ S) Q := by
  unfold c_for
  rw [hc]
  exact wp_forL (body := fun d ρ S => (g d ρ S).bind fun ρ1 S1 => b ρ1 S1) e I hok l hs he [] l ρ S1 rfl h0
theorem wp_whileL {c : TCode} {b : SCode} (I : Nat → Env → Sto → Prop) (h : ∀ m ρ S, I m ρ S → wp (c ρ S) fun k S1 => if k = true then wp (b ρ S1) (FQ (fun ρ' S' => ∃ m', m' < m ∧ I m' ρ' S') Q) else Q (.nx ρ) S1) :
    ∀ (fuel m : Nat) ρ S, m < fuel → I m ρ S → wp (whileL c b fuel ρ S) Q
  | 0, m, _, _, hm, _ => absurd hm (Nat.not_lt_zero m)
  | fuel + 1, m, ρ, S, hm, hI => by
    unfold whileL
    rw [wp_bind]
    refine wp_of (h m ρ S hI) fun k S1 hk => ?_
    cases k with
    | false => exact ⟨hk⟩
    | true =>
      have hk : wp (b ρ S1) (FQ (fun ρ' S' => ∃ m', m' < m ∧ I m' ρ' S') Q) := hk
      show wp ((b ρ S1).bind _) Q
      rw [wp_bind]
      refine wp_of hk fun f S2 hf => ?_
      cases f with
      | nx ρ1 => obtain ⟨m', hm', hI'⟩ := hf; exact wp_whileL I h fuel m' ρ1 S2 (by omega) hI'
      | ct ρ1 => obtain ⟨m', hm', hI'⟩ := hf; exact wp_whileL I h fuel m' ρ1 S2 (by omega) hI'
      | bk ρ1 => exact ⟨hf⟩
      | rt d => exact ⟨hf⟩
theorem wp_while {c : TCode} {b : SCode} (m : Nat) (I : Nat → Env → Sto → Prop) (hm : m < 1000000000) (h0 : I m ρ S)
    (h : ∀ m ρ S, I m ρ S → wp (c ρ S) fun k S1 => if k = true then wp (b ρ S1) (FQ (fun ρ' S' => ∃ m', m' < m ∧ I m' ρ' S') Q) else Q (.nx ρ) S1) : wp (c_while c b ρ S) Q :=
  wp_whileL I h FUEL m ρ S (Nat.lt_trans hm (by unfold FUEL; decide)) h0
end
/-! ### comprehensions -/
def lcB (g : D → Env → Sto → Res Env) (t : TCode) (a : ECode) (ρ : Env) (d : D) (S : Sto) : Res (Option D) :=
  (g d ρ S).bindN fun ρ1 S1 => (t ρ1 S1).bindN fun b S2 => if b = true then (a ρ1 S2).bindN fun y S3 => .ok (some y) S3 else .ok none S2
def addO (ys : List D) : Option D → List D
  | some y => ys ++ [y]
  | none => ys
@[simp] theorem addO_some {ys : List D} {y : D} : addO ys (some y) = ys ++ [y] := rfl
@[simp] theorem addO_none {ys : List D} : addO ys none = ys := rfl
section
variable {ok : Sto → Prop} {g : D → Env → Sto → Res Env} {t : TCode} {a : ECode}
theorem wp_lcL (e : α → D) (I : List α → Sto → List D → Prop) (hok : ∀ p S ys, I p S ys → ok S) (l : List α)
    (hs : ∀ pre x post S ys, l = pre ++ x :: post → I pre S ys → wp (lcB g t a ρ (e x) S) fun o S' => I (pre ++ [x]) S' (addO ys o)) :
    ∀ (pre post : List α) S ys, l = pre ++ post → I pre S ys → wp (lcL ok g t a ρ (post.map e) S) fun zs S' => I l S' (ys ++ zs)
  | pre, [], S, ys, hl, h => by
    rw [List.append_nil] at hl
    subst hl
    rw [List.map_nil]
    unfold lcL
    rw [if_pos (hok _ _ _ h)]
    rw [wp_ok, List.append_nil]
    exact h
  | pre, x :: post, S, ys, hl, h => by
    rw [List.map_cons]
    unfold lcL
    rw [if_pos (hok _ _ _ h), wp_bindN]
    have hb := hs pre x post S ys hl h
    unfold lcB at hb
    rw [wp_bindN] at hb
    refine wp_of hb fun ρ1 S1 hb => ?_
    rw [wp_bindN] at hb ⊢
    refine wp_of hb fun b S2 hb => ?_
    cases b with
    | false =>
      have hb : wp (.ok none S2) fun o S' => I (pre ++ [x]) S' (addO ys o) := hb
      rw [wp_ok] at hb
      exact wp_lcL e I hok l hs (pre ++ [x]) post S2 ys (by rw [hl]; simp) hb
    | true =>
      have hb : wp ((a ρ1 S2).bindN fun y S3 => .ok (some y) S3) fun o S' => I (pre ++ [x]) S' (addO ys o) := hb
      show wp ((a ρ1 S2).bindN _) _
      rw [wp_bindN] at hb ⊢
      refine wp_of hb fun y S3 hb => ?_
      rw [wp_ok] at hb
      rw [wp_bind]
      refine wp_of (wp_lcL e I hok l hs (pre ++ [x]) post S3 (ys ++ [y]) (by rw [hl]; simp) hb) fun zs S4 hz => ?_
      rw [List.append_assoc] at hz
      exact ⟨hz⟩
theorem wp_lc {ci : Env → Sto → Res Wk} {own : List Nat} {src : List (D × List D)} {Q : D → Sto → Prop} (l : List α) (e : α → D) (I : List α → Sto → List D → Prop) (hc : ci ρ S = .ok ⟨l.map e, src⟩ S1) (hf : l.length ≤ 1000000) (hok : ∀ p S ys, I p S ys → Wk.ok ⟨l.map e, src⟩ S) (h0 : I [] S1 [])
    (hs : ∀ pre x post S ys, l = pre ++ x :: post → I pre S ys → wp (lcB g t a (wipeE ρ own) (e x) S) fun o S' => I (pre ++ [x]) S' (addO ys o)) (he : ∀ ys S, I l S ys → Q (.lst ys) S) : wp (c_lc ci g t a own ρ S) Q := by
  unfold c_lc
  rw [hc]
  show wp (if fits (l.map e).length = true then _ else _) Q
  rw [if_pos (fits_le' (by rw [List.length_map]; exact hf)), wp_bind]
  exact wp_of (wp_lcL e I hok l hs [] l S1 [] rfl h0) fun zs S2 hz => ⟨he _ _ hz⟩
/-- a comprehension that changes nothing, with a test -/
theorem wp_lcF {ci : Env → Sto → Res Wk} {own : List Nat} {src : List (D × List D)} {Q : D → Sto → Prop} (l : List α) (e : α → D) (f : α → Option D) (hc : ci ρ S = .ok ⟨l.map e, src⟩ S1) (hf : l.length ≤ 1000000) (hok : Wk.ok ⟨l.map e, src⟩ S1)
    (hs : ∀ x ∈ l, lcB g t a (wipeE ρ own) (e x) S1 = .ok (f x) S1) (he : Q (.lst (l.filterMap f)) S1) : wp (c_lc ci g t a own ρ S) Q := by
  refine wp_lc l e (fun pre S' ys => S' = S1 ∧ ys = pre.filterMap f) hc hf (fun _ _ _ h => by rw [h.1]; exact hok) ⟨rfl, rfl⟩ (fun pre x post S' ys hl h => ?_) fun ys S' h => by rw [h.1, h.2]; exact he
  obtain ⟨rfl, rfl⟩ := h
  rw [hs x (by rw [hl]; simp), wp_ok]
  refine ⟨rfl, ?_⟩
  rw [List.filterMap_append]
  cases hx : f x with
  | none => simp [hx]
  | some y => simp [hx]
/-- the same without a test -/
theorem wp_lcM {ci : Env → Sto → Res Wk} {own : List Nat} {src : List (D × List D)} {Q : D → Sto → Prop} (l : List α) (e f : α → D) (hc : ci ρ S = .ok ⟨l.map e, src⟩ S1) (hf : l.length ≤ 1000000) (hok : Wk.ok ⟨l.map e, src⟩ S1)
    (hs : ∀ x ∈ l, lcB g t a (wipeE ρ own) (e x) S1 = .ok (some (f x)) S1) (he : Q (.lst (l.map f)) S1) : wp (c_lc ci g t a own ρ S) Q := by
  refine wp_lcF l e (fun x => some (f x)) hc hf hok hs ?_
  have e2 : l.filterMap (fun x => some (f x)) = l.map f := by rw [← List.filterMap_eq_map]; rfl
  rw [e2]
  exact he
theorem lc_eqM {ci : Env → Sto → Res Wk} {own : List Nat} {src : List (D × List D)} (l : List α) (e f : α → D) (hc : ci ρ S = .ok ⟨l.map e, src⟩ S1) (hf : l.length ≤ 1000000) (hok : Wk.ok ⟨l.map e, src⟩ S1)
    (hs : ∀ x ∈ l, lcB g t a (wipeE ρ own) (e x) S1 = .ok (some (f x)) S1) : c_lc ci g t a own ρ S = .ok (.lst (l.map f)) S1 := eq_wp (wp_lcM l e f hc hf hok hs ⟨rfl, rfl⟩)
theorem lc_eqF {ci : Env → Sto → Res Wk} {own : List Nat} {src : List (D × List D)} (l : List α) (e : α → D) (f : α → Option D) (hc : ci ρ S = .ok ⟨l.map e, src⟩ S1) (hf : l.length ≤ 1000000) (hok : Wk.ok ⟨l.map e, src⟩ S1)
    (hs : ∀ x ∈ l, lcB g t a (wipeE ρ own) (e x) S1 = .ok (f x) S1) : c_lc ci g t a own ρ S = .ok (.lst (l.filterMap f)) S1 := eq_wp (wp_lcF l e f hc hf hok hs ⟨rfl, rfl⟩)
end
/-! ### what is walked -/
theorem it_eq {x : D} {xs : List D} {a : ECode} (ha : a ρ S = .ok x S1) (h : itemsOf x S1 = some xs) : c_it a ρ S = .ok ⟨xs, [(x, xs)]⟩ S1 := it_lst ha h
theorem rng1 {j : Int} {a : ACode} (ha : a ρ S = .ok [.int j] S) (h : -(2 ^ 62) ≤ j ∧ j < 2 ^ 62) : c_rng1 a ρ S = .ok ⟨(List.range j.toNat).map fun (k : Nat) => D.int (0 + (k : Int)), []⟩ S := rng1_eq ha h
theorem rng2 {i j : Int} {a : ACode} (ha : a ρ S = .ok [.int i, .int j] S) (hi : -(2 ^ 62) ≤ i ∧ i < 2 ^ 62) (h : -(2 ^ 62) ≤ j ∧ j < 2 ^ 62) : c_rng2 a ρ S = .ok ⟨(List.range (j - i).toNat).map fun (k : Nat) => D.int (i + (k : Int)), []⟩ S := rng2_eq ha hi h
end
/-! ### values, under conditions -/
section
variable {S : Sto}
theorem v_mulC {b : Bool} {i j : Int} (h1 : -(2 ^ 64) < i) (h2 : i < 2 ^ 64) (h3 : -(2 ^ 64) < j) (h4 : j < 2 ^ 64) : p_mul b (.int i) (.int j) S = .ok (.int (i * j)) S := by
  rw [v_mul, if_pos (cmul h1 h2 h3 h4)]
theorem v_fdivC {i j : Int} (h : 0 < j) (h2 : j < 2 ^ 64) : p_fdiv (.int i) (.int j) S = .ok (.int (i / j)) S := by
  rw [v_fdiv, if_pos (cdiv h h2)]
theorem v_modC {i j : Int} (h : 0 < j) : p_mod (.int i) (.int j) S = .ok (.int (i % j)) S := by
  rw [v_mod, if_pos h]
theorem ix_t0 {a : D} {r : List D} : p_ix (.tup (a :: r)) (.int 0) S = .ok a S := ix_tup (by decide) rfl
theorem ix_t1 {a b : D} {r : List D} : p_ix (.tup (a :: b :: r)) (.int 1) S = .ok b S := ix_tup (by decide) rfl
theorem ix_t2 {a b c : D} {r : List D} : p_ix (.tup (a :: b :: c :: r)) (.int 2) S = .ok c S := ix_tup (by decide) rfl
theorem ix_l0 {a : D} {r : List D} : p_ix (.lst (a :: r)) (.int 0) S = .ok a S := ix_lst (by decide) rfl
theorem ix_l1 {a b : D} {r : List D} : p_ix (.lst (a :: b :: r)) (.int 1) S = .ok b S := ix_lst (by decide) rfl
theorem ix_l2 {a b c : D} {r : List D} : p_ix (.lst (a :: b :: c :: r)) (.int 2) S = .ok c S := ix_lst (by decide) rfl
theorem isi_int_int {i : Int} : p_isi [.int i, .ty "int"] S = .ok (.bl true) S := rfl
theorem isi_int_bool {i : Int} : p_isi [.int i, .ty "bool"] S = .ok (.bl false) S := rfl
theorem min2_eq {i j : Int} : p_min2 [.int i, .int j] S = .ok (.int (if j < i then j else i)) S := rfl
theorem max2_eq {i j : Int} : p_max2 [.int i, .int j] S = .ok (.int (if j > i then j else i)) S := rfl
end
theorem mapM_bl {α : Type} (g : α → Bool) : ∀ l : List α, (l.map fun x => D.bl (g x)).mapM blOf = some (l.map g)
  | [] => rfl
  | x :: l => by
    rw [List.map_cons, List.mapM_cons, mapM_bl g l]
    rfl
theorem all_bls {α : Type} {g : α → Bool} {l : List α} {S : Sto} : p_all [.lst (l.map fun x => D.bl (g x))] S = .ok (.bl (l.all g)) S := by
  show (match ((l.map fun x => D.bl (g x)).mapM blOf) with
    | some ns => Res.ok (D.bl (ns.all id)) S
    | none => .stuck) = _
  rw [mapM_bl]
  show Res.ok (D.bl ((l.map g).all id)) S = _
  rw [List.all_map]
  rfl
/-! ### one's own last cell -/
section
variable {S : Sto}
theorem snoc_at {c : Option Cell} : (S ++ [c])[S.length]? = some c := by
  rw [List.getElem?_append_right (Nat.le_refl _), Nat.sub_self]
  rfl
theorem cellOf_snoc {c : Cell} : cellOf (S ++ [some c]) S.length = some c := by
  unfold cellOf
  rw [snoc_at]
theorem snoc_set {c c' : Option Cell} : (S ++ [c]).set S.length c' = S ++ [c'] := by
  rw [List.set_append_right _ _ (Nat.le_refl _), Nat.sub_self]
  rfl
theorem setF_snoc {c i : Nat} {fs : List D} {v : D} (hi : i = fs.length) (h : fs.length < 1000) : p_setF c i (.ref S.length) v (S ++ [some (.ins c fs)]) = .ok () (S ++ [some (.ins c (fs ++ [v]))]) := by
  unfold p_setF
  simp only [cellOf_snoc]
  rw [if_pos ⟨trivial, by omega, h⟩, if_neg (by omega), snoc_set]
theorem make_frz {c : Nat} {m : List D → Sto → Res D} {ds fs : List D} (h : m (.ref S.length :: ds) (S ++ [some (.ins c [])]) = .ok .non (S ++ [some (.ins c fs)])) (hr : refsLtL S.length fs = true) : p_make false c m ds S = .ok (.obj c fs) S := by
  unfold p_make
  rw [h]
  simp only [Res.bind_ok, Bool.false_eq_true, if_false, cellOf_snoc, if_true, snoc_set]
  exact fin_app hr
end
end DL
set_option Elab.async false
set_option linter.all false
set_option maxRecDepth 100000
set_option maxHeartbeats 4000000
/-! DP5: cells by their number, the deck -/
namespace DL
open PySem PySem.Spec PyProof.Rows L2
section
variable {S S' T U : Sto} {n : Nat}
theorem cell_at {c : Cell} (h : S[n]? = some (some c)) : cellOf S n = some c := by
  unfold cellOf
  rw [h]
theorem items_ref {ds : List D} (h : S[n]? = some (some (.lst ds))) : itemsOf (.ref n) S = some ds := by
  show (match S[n]? with
    | some (some (.lst ds)) => some ds
    | _ => none) = _
  rw [h]
theorem len_ref {ds : List D} (h : S[n]? = some (some (.lst ds))) : p_len [.ref n] S = .ok (.int ds.length) S := by
  show (match lenOf (.ref n) S with
    | some n => Res.ok (D.int n) S
    | none => .stuck) = _
  unfold lenOf
  rw [items_ref h]
theorem isL_ref {ds : List D} (h : S[n]? = some (some (.lst ds))) : isL (.ref n) S = true := by
  show (match S[n]? with
    | some (some (.lst ds)) => some ds
    | _ => none).isSome = true
  rw [h]
  rfl
theorem append_ref {ds : List D} {y : D} (h : S[n]? = some (some (.lst ds))) (hf : ds.length < 1000000) : p_append (.ref n) [y] S = .ok .non (S.set n (some (.lst (ds ++ [y])))) := by
  unfold p_append
  simp only [cell_at h]
  rw [if_pos (fits_le' (by omega))]
theorem ix_ref {ds : List D} {i : Int} {y : D} (h : S[n]? = some (some (.lst ds))) (hi : atD ds i = some y) : p_ix (.ref n) (.int i) S = .ok y S := by
  unfold p_ix
  rw [items_ref h]
  show p_ixL ds i S = _
  unfold p_ixL
  rw [hi]
/-! one's own last cells -/
theorem snoc_at1 {a b : Option Cell} : (S ++ [a, b])[S.length + 1]? = some b := by
  rw [List.getElem?_append_right (by omega), Nat.add_sub_cancel_left]
  rfl
theorem snoc_set1 {a b c : Option Cell} : (S ++ [a, b]).set (S.length + 1) c = S ++ [a, c] := by
  rw [List.set_append_right _ _ (by omega), Nat.add_sub_cancel_left]
  rfl
/-! references of data -/
theorem ltL_all {N : Nat} : ∀ {l : List D}, (∀ d ∈ l, refsLt N d = true) → refsLtL N l = true
  | [], _ => rfl
  | d :: l, h => by
    rw [refsLtL, h d (List.mem_cons_self ..), ltL_all fun x hx => h x (List.mem_cons_of_mem _ hx)]
    rfl
theorem filterMap_if {α : Type} {c : α → Bool} {f : α → D} : ∀ l : List α, (l.filterMap fun x => if c x = true then some (f x) else none) = (l.filter c).map f
  | [] => rfl
  | x :: l => by
    rw [List.filterMap_cons, List.filter_cons]
    cases c x with
    | true => simp only [if_true, List.map_cons, filterMap_if l]
    | false => simp only [Bool.false_eq_true, if_false, filterMap_if l]
/-! ### the deck -/
section
variable {its : List Int} {seed cnt : Int} {A B C : Option Cell}
theorem Dk.app {m : Nat} (h : Dk m T S) : Dk m (T ++ U) (S ++ U) := by
  obtain ⟨its, seed, cnt, rfl, h⟩ := h
  exact ⟨its, seed, cnt, rfl, h⟩
theorem Dk.len {m : Nat} (h : Dk m T S) : S.length = T.length + 2 := by
  obtain ⟨its, seed, cnt, rfl, h⟩ := h
  rfl
end
end
end DL
set_option Elab.async false
set_option linter.all false
set_option maxRecDepth 100000
set_option maxHeartbeats 4000000
/-! DP6: instances, lists of ints by a function of the place, reduced numbers -/
namespace DL
open PySem PySem.Spec PyProof.Rows L2
section
variable {S : Sto} {n c : Nat} {fs : List D}
theorem cls_obj : clsOf (.obj c fs) S = some c := rfl
theorem flds_obj : fldsOf (.obj c fs) S = some fs := rfl
theorem isiO_obj {C : Addr} : p_isiO c C [.obj c fs, .con C] S = .ok (.bl true) S := by
  unfold p_isiO
  simp only [isCon_self, if_true, cls_obj]
theorem v_augS {p : D → D → Sto → Res D} {o i a : ECode} {ρ : Env} : c_augS p o i a ρ S = (o ρ S).bind fun x S1 => (i ρ S1).bind fun y S2 => (p_ixA x y S2).bind fun z S3 => (a ρ S3).bind fun w S4 => (p z w S4).bind fun r S5 => (p_setI x y r S5).bind fun _ S6 => .ok (.nx ρ) S6 := rfl
theorem v_methK {n' m' : Nat} {g : List D → List D → List D} {m : List D → Sto → Res D} {o : ECode} {a b : ACode} {ρ : Env} : c_methK c n' m' g m o a b ρ S = (o ρ S).bind fun x S1 => if clsOf x S1 = some c then (a ρ S1).bind fun ds S2 => (b ρ S2).bind fun es S3 => if ds.length = n' ∧ es.length = m' then m (g (x :: ds) es) S3 else .stuck else .stuck := rfl
theorem v_makeK {b : Bool} {m' : Nat} {g : List D → List D → List D} {m : List D → Sto → Res D} {a : ACode} {ρ : Env} : c_makeK b c m' g m a ρ S = (a ρ S).bind fun es S1 => if es.length = m' then p_make b c (fun ds => m (g (ds.take 1) (ds.drop 1))) es S1 else .stuck := rfl
end
theorem list_tup_t {S : Sto} {ds : List D} (h : ds.length ≤ 1000000) : p_list true [.tup ds] S = .ok (.ref S.length) (S ++ [some (.lst ds)]) := lst_t h
theorem cmulB {i j : Int} (h1 : -(2 ^ 200) < i) (h2 : i < 2 ^ 200) (h3 : -(2 ^ 200) < j) (h4 : j < 2 ^ 200) : CMulW i j :=
  wide_mul (a := 200) (b := 200) (by omega) (by omega) (by decide) (by decide) (by decide)
theorem v_mulB {b : Bool} {i j : Int} {S : Sto} (h1 : -(2 ^ 200) < i) (h2 : i < 2 ^ 200) (h3 : -(2 ^ 200) < j) (h4 : j < 2 ^ 200) : p_mul b (.int i) (.int j) S = .ok (.int (i * j)) S := by
  rw [v_mul, if_pos (cmulB h1 h2 h3 h4)]
/-! ### lists by a function of the place -/
/-! ### numbers next to 0 -/
def red (p x : Int) : Int := if p < 2 * (x % p) then x % p - p else x % p
section
variable {p x y : Int}
theorem red_range (h : 0 < p) : -p < 2 * red p x ∧ 2 * red p x ≤ p := by
  unfold red
  have h1 := Int.emod_nonneg x (show p ≠ 0 by omega)
  have h2 := Int.emod_lt_of_pos x h
  split <;> omega
end
end DL
set_option Elab.async false
set_option linter.all false
set_option maxRecDepth 100000
set_option maxHeartbeats 4000000
/-! DP7: texts and equality again; stores behind a deck; rows in cells -/
namespace DL
open PySem PySem.Spec PyProof.Rows L2
theorem ev_a5 {m : List D → Sto → Res D} {a b c d e : D} {S : Sto} : argsN 5 m [a, b, c, d, e] S = m [a, b, c, d, e] S := rfl
theorem ev_a6 {m : List D → Sto → Res D} {a b c d e f : D} {S : Sto} : argsN 6 m [a, b, c, d, e, f] S = m [a, b, c, d, e, f] S := rfl
theorem ev_a7 {m : List D → Sto → Res D} {a b c d e f g : D} {S : Sto} : argsN 7 m [a, b, c, d, e, f, g] S = m [a, b, c, d, e, f, g] S := rfl
theorem ne_str {S : Sto} {x : PySem.Str} (hx : PyData.strOk x = true) : p_eq true (.str x) (.str x) S = .ok (.bl false) S := by
  unfold p_eq
  have h : SeqAt.shaped (.str x) = true := by
    unfold SeqAt.shaped
    rw [PyData.canLay0, hx]
    rfl
  show (if _ then _ else _) = _
  rw [if_pos ⟨h, h⟩]
  simp only [if_true, PyData.eqv, beq_self_eq_true, Bool.not_true]
theorem Fi.shaped {d w : Nat} {p : PyData} (h : Fi d w p) (hd : d ≤ 60) : SeqAt.shaped p = true := by
  unfold SeqAt.shaped
  have := h.dep
  rw [h.lay, Bool.true_and]
  exact decide_eq_true (by omega)
theorem add_lst {S : Sto} {xs ys : List D} (h : xs.length + ys.length ≤ 1000000) : p_add false (.lst xs) (.lst ys) S = .ok (.lst (xs ++ ys)) S := by
  show p_lst false (xs ++ ys) S = _
  exact lst_f (by rw [List.length_append]; exact h)
theorem pow_eq {i j : Int} {S : Sto} (h : 0 ≤ j) (h2 : j ≤ 1000) (h3 : i.natAbs < 2 ^ 64) : p_pow (.int i) (.int j) S = .ok (.int (i ^ j.toNat)) S := by
  rw [v_pow, if_pos ⟨h, by omega, h3⟩]
/-! ### behind a deck -/
def DkE (j : Nat) (S : Sto) : Prop := ∃ T, Dk j T S
/-- nothing but the deck is changed -/
def Sm (S S' : Sto) : Prop := S'.length = S.length ∧ ∀ i, 2 ≤ i → S'[i]? = S[i]?
theorem Sm.refl {S : Sto} : Sm S S := ⟨rfl, fun _ _ => rfl⟩
theorem Sm.trans {S S1 S2 : Sto} (a : Sm S S1) (b : Sm S1 S2) : Sm S S2 := ⟨b.1.trans a.1, fun i h => (b.2 i h).trans (a.2 i h)⟩
theorem Sm.at_ {S S' : Sto} (h : Sm S S') {i : Nat} {x : Option Cell} (hi : 2 ≤ i) (e : S[i]? = some x) : S'[i]? = some x := (h.2 i hi).trans e
theorem DkE.mono {j m : Nat} {S : Sto} (h : DkE j S) (hm : j ≤ m) : DkE m S := by
  obtain ⟨T, h⟩ := h
  exact ⟨T, h.mono hm⟩
theorem DkE.app {j : Nat} {S U : Sto} (h : DkE j S) : DkE j (S ++ U) := by
  obtain ⟨T, h⟩ := h
  exact ⟨T ++ U, h.app⟩
theorem DkE.len {j : Nat} {S : Sto} (h : DkE j S) : 2 ≤ S.length := by
  obtain ⟨T, h⟩ := h
  have := h.len
  omega
theorem DkE.set {j i : Nat} {S : Sto} {c : Option Cell} (h : DkE j S) (hi : 2 ≤ i) : DkE j (S.set i c) := by
  obtain ⟨T, its, seed, cnt, rfl, h⟩ := h
  obtain ⟨m, rfl⟩ : ∃ m, i = m + 2 := ⟨i - 2, by omega⟩
  exact ⟨T.set m c, its, seed, cnt, rfl, h⟩
theorem range_pre {N : Nat} {pre post : List Nat} {x : Nat} (h : List.range N = pre ++ x :: post) : x < N ∧ x = pre.length ∧ pre.length < N := by
  have hx : x < N := List.mem_range.mp (by rw [h]; simp)
  have hl := congrArg List.length h
  simp at hl
  have e : (List.range N)[pre.length]? = some x := by rw [h]; simp
  rw [List.getElem?_range (by omega)] at e
  cases e
  exact ⟨hx, rfl, by omega⟩
/-! ### rows in cells -/
end DL
set_option Elab.async false
set_option linter.all false
set_option maxRecDepth 100000
set_option maxHeartbeats 4000000
/-! DP8: texts by their length -/
namespace DL
open PySem PySem.Spec PyProof.Rows L2
structure Fx (d w : Nat) (p : PyData) : Prop where
  lay : p.canLay0 = true
  sh : p.showable = true
  nd : p.hasDict = false
  dep : p.depth ≤ d
  len : p.shown.length ≤ w
  ok : PyData.strOk p.shown = true
structure Fxs (d w : Nat) (ps : List PyData) : Prop where
  lay : PyData.canLayAll0 ps = true
  sh : PyData.showableAll ps = true
  nd : PyData.hasDictAll ps = false
  dep : PyData.depthAll ps ≤ d
  len : ∀ t ∈ PyData.shownAll ps, t.length ≤ w
  num : (PyData.shownAll ps).length = ps.length
  ok : ∀ t ∈ PyData.shownAll ps, PyData.strOk t = true
theorem Fx.mono {d w d' w' : Nat} {p : PyData} (h : Fx d w p) (h1 : d ≤ d') (h2 : w ≤ w') : Fx d' w' p := ⟨h.lay, h.sh, h.nd, Nat.le_trans h.dep h1, Nat.le_trans h.len h2, h.ok⟩
theorem Fx.int {i : Int} {k : Nat} (hk : 0 < k) (hk2 : k ≤ 60) (h : i.natAbs < 10 ^ k) : Fx 0 (k + 1) (.int i) := by
  have h60 : i.natAbs < 10 ^ 60 := Nat.lt_of_lt_of_le h (Nat.pow_le_pow_right (by decide) hk2)
  have hl : i.natAbs.log2 < 200 := by
    rcases Nat.eq_zero_or_pos i.natAbs with e | e
    · rw [e]; decide
    · exact (Nat.log2_lt (by omega)).mpr (Nat.lt_trans h60 (by decide))
  refine ⟨rfl, ?_, rfl, Nat.le_refl _, ?_, sOk_of _⟩
  · rw [PyData.showable]
    exact decide_eq_true (by omega)
  · rw [PyData.shown, PySem.ofString_length]
    exact int_text_length_le10 hk h
theorem Fxs.of {d w : Nat} : ∀ {ps : List PyData}, (∀ p ∈ ps, Fx d w p) → Fxs d w ps
  | [], _ => ⟨rfl, rfl, rfl, Nat.zero_le _, fun t h => (by cases h), rfl, fun t h => (by cases h)⟩
  | p :: ps, h => by
    have a := h p (List.mem_cons_self ..)
    have b := Fxs.of (ps := ps) fun q hq => h q (List.mem_cons_of_mem _ hq)
    refine ⟨?_, ?_, ?_, ?_, fun t ht => ?_, ?_, fun t ht => ?_⟩
    · rw [PyData.canLayAll0, a.lay, b.lay]; rfl
    · rw [PyData.showableAll, a.sh, b.sh]; rfl
    · rw [PyData.hasDictAll, a.nd, b.nd]; rfl
    · rw [PyData.depthAll]; exact Nat.max_le.mpr ⟨a.dep, b.dep⟩
    · rw [PyData.shownAll] at ht
      rcases List.mem_cons.mp ht with rfl | ht
      · exact a.len
      · exact b.len t ht
    · rw [PyData.shownAll, List.length_cons, List.length_cons, b.num]
    · rw [PyData.shownAll] at ht
      rcases List.mem_cons.mp ht with rfl | ht
      · exact a.ok
      · exact b.ok t ht
theorem textFrom_le {w : Nat} : ∀ (ts : List PySem.Str) (k : Nat) (acc : PySem.Str), (∀ t ∈ ts, t.length ≤ w) → (textFrom k acc ts).length ≤ acc.length + ts.length * (w + 2)
  | [], k, acc, _ => by
    show acc.length ≤ _
    omega
  | t :: ts, k, acc, h => by
    have ih := textFrom_le ts (k + 1) (acc ++ (if k > 0 then ", " else "" : String) ++ t) fun u hu => h u (List.mem_cons_of_mem _ hu)
    have e : (acc ++ (if k > 0 then ", " else "" : String) ++ t).length = acc.length + (if k > 0 then 2 else 0) + t.length := by
      rw [PySem.strLen_append, PySem.strLen_append]
      split <;> rfl
    have ht := h t (List.mem_cons_self ..)
    unfold textFrom
    rw [e] at ih
    rw [List.length_cons, Nat.succ_mul]
    refine Nat.le_trans ih ?_
    split <;> omega
theorem join_le {w : Nat} : ∀ ts : List PySem.Str, (∀ t ∈ ts, t.length ≤ w) → (PySem.Str.join ", " ts).length ≤ ts.length * (w + 2)
  | [], _ => Nat.zero_le _
  | [t], h => by
    have := h t (List.mem_cons_self ..)
    show t.length ≤ _
    simp only [List.length_cons, List.length_nil]
    omega
  | t :: u :: r, h => by
    have ih := join_le (u :: r) fun x hx => h x (List.mem_cons_of_mem _ hx)
    have h1 := h t (List.mem_cons_self ..)
    have e : PySem.Str.join ", " (t :: u :: r) = t ++ ", " ++ PySem.Str.join ", " (u :: r) := by rw [PySem.Str.join]; exact fun e => by cases e
    rw [e, PySem.strLen_append, PySem.strLen_append]
    have e2 : ((", " : String) : PySem.Str).length = 2 := rfl
    rw [e2, List.length_cons, Nat.succ_mul]
    omega
theorem Fx.list {d w : Nat} {ps : List PyData} (h : ∀ p ∈ ps, Fx d w p) : Fx (d + 1) (ps.length * (w + 2) + 2) (.list ps) := by
  have b := Fxs.of h
  refine ⟨?_, ?_, ?_, ?_, ?_, ?_⟩
  · rw [PyData.canLay0]; exact b.lay
  · rw [PyData.showable]; exact b.sh
  · rw [PyData.hasDict]; exact b.nd
  · rw [PyData.depth]; have := b.dep; omega
  · rw [PyData.shown]
    unfold listText
    rw [PySem.strLen_append]
    have := textFrom_le (PyData.shownAll ps) 0 "[" b.len
    rw [b.num] at this
    have e1 : (("[" : String) : PySem.Str).length = 1 := rfl
    have e2 : (("]" : String) : PySem.Str).length = 1 := rfl
    rw [e1] at this
    rw [e2]
    omega
  · rw [PyData.shown]
    unfold listText
    exact sOk_app (sOk_from _ _ _ (sOk_of _) b.ok) (sOk_of _)
theorem Fx.tuple {d w : Nat} {ps : List PyData} (h : ∀ p ∈ ps, Fx d w p) : Fx (d + 1) (ps.length * (w + 2) + 3) (.tuple ps) := by
  have b := Fxs.of h
  refine ⟨?_, ?_, ?_, ?_, ?_, ?_⟩
  · rw [PyData.canLay0]; exact b.lay
  · rw [PyData.showable]; exact b.sh
  · rw [PyData.hasDict]; exact b.nd
  · rw [PyData.depth]; have := b.dep; omega
  · rw [PyData.shown]
    unfold tupleText
    rw [PySem.strLen_append, PySem.strLen_append]
    have := join_le (PyData.shownAll ps) b.len
    rw [b.num] at this
    have e1 : (("(" : PySem.Str)).length = 1 := rfl
    have e2 : ((if (PyData.shownAll ps).length == 1 then ",)" else ")" : String) : PySem.Str).length ≤ 2 := by split <;> decide
    rw [e1]
    omega
  · rw [PyData.shown]
    unfold tupleText
    exact sOk_app (sOk_app (sOk_of _) (sOk_join _ (sOk_of _) _ b.ok)) (sOk_of _)
theorem Fx.text {d w : Nat} {p : PyData} (h : Fx d w p) (hs : isSeq p = true) (hd : d ≤ 60) (hw : w ≤ 1000000) : textOf p = some p.shown := by
  have hl := Nat.le_trans h.len hw
  have hd' := Nat.le_trans h.dep hd
  unfold textOf
  cases p with
  | list xs => exact if_pos ⟨h.sh, h.nd, hd', hl⟩
  | tuple xs => exact if_pos ⟨h.sh, h.nd, hd', hl⟩
  | _ => cases hs
theorem Fx.shaped {d w : Nat} {p : PyData} (h : Fx d w p) (hd : d ≤ 60) : SeqAt.shaped p = true := by
  unfold SeqAt.shaped
  have := h.dep
  rw [h.lay, Bool.true_and]
  exact decide_eq_true (by omega)
/-- repr of a value whose text is short -/
theorem repr_x {S : Sto} {x : D} {p : PyData} {d w : Nat} (hp : pyOf S x = some p) (h : Fx d w p) (hs : isSeq p = true) (hd : d ≤ 60) (hw : w ≤ 1000000) : p_repr [x] S = .ok (.str p.shown) S := by
  unfold p_repr
  simp only [hp, Option.bind_some, h.text hs hd hw]
theorem pyL_map {S : Sto} {α : Type} {f : α → D} {g : α → PyData} {l : List α} (h : ∀ x ∈ l, pyOf S (f x) = some (g x)) : pyOfL S (l.map f) = some (l.map g) := by
  induction l with
  | nil => rfl
  | cons x l ih => rw [List.map_cons, pyOfL, h x (List.mem_cons_self ..), ih fun y hy => h y (List.mem_cons_of_mem _ hy)]; rfl
theorem flatL_map {α : Type} {f : α → D} {g : α → PyData} {l : List α} (h : ∀ x ∈ l, DL.flat (f x) = some (g x)) : flatL (l.map f) = some (l.map g) := by
  induction l with
  | nil => rfl
  | cons x l ih => rw [List.map_cons, flatL, h x (List.mem_cons_self ..), ih fun y hy => h y (List.mem_cons_of_mem _ hy)]; rfl
theorem py_ref {S : Sto} {n : Nat} {ds : List D} {ps : List PyData} (h : S[n]? = some (some (.lst ds))) (hf : flatL ds = some ps) : pyOf S (.ref n) = some (.list ps) := by
  rw [pyOf, h]
  show (flatL ds).map PyData.list = _
  rw [hf]
  rfl
theorem eq_strB {n : Bool} {S : Sto} {x : PySem.Str} (hx : PyData.strOk x = true) : p_eq n (.str x) (.str x) S = .ok (.bl (!n)) S := by
  cases n with
  | true => exact ne_str hx
  | false =>
    rw [eq_str hx hx]
    simp
end DL
set_option Elab.async false
set_option linter.all false
set_option maxRecDepth 100000
set_option maxHeartbeats 4000000
/-! DPE: what holds behind a mirror that may end in an error -/
namespace DL
open PySem PySem.Spec PyProof.Rows L2
structure wpx {α : Type} (r : Res α) (Q : α → Sto → Prop) (X : Nat → D → Sto → Prop) : Prop where
  get : match r with
    | .ok a S => Q a S
    | .ex c d S => X c d S
    | .stuck => False
section
variable {α β : Type} {S S' S0 S1 T : Sto} {ρ : Env} {d : D} {X Y : Nat → D → Sto → Prop}
theorem wpx_ok {a : α} {Q : α → Sto → Prop} : wpx (.ok a S) Q X = Q a S := propext ⟨fun h => h.get, fun h => ⟨h⟩⟩
theorem wpx_exx {c : Nat} {Q : α → Sto → Prop} : wpx (.ex c d S) Q X = X c d S := propext ⟨fun h => h.get, fun h => ⟨h⟩⟩
theorem wpx_stF {Q : α → Sto → Prop} : wpx .stuck Q X = False := propext ⟨fun h => h.get, fun h => h.elim⟩
theorem wpx_bind {r : Res α} {k : α → Sto → Res β} {Q : β → Sto → Prop} : wpx (r.bind k) Q X = wpx r (fun a S => wpx (k a S) Q X) X := by
  cases r with
  | ok a S => rw [Res.bind_ok, wpx_ok]
  | ex c d S => rw [Res.bind_ex, wpx_exx, wpx_exx]
  | stuck => rw [Res.bind_stuck, wpx_stF, wpx_stF]
theorem wpx_bindN {r : Res α} {k : α → Sto → Res β} {Q : β → Sto → Prop} : wpx (r.bindN k) Q X = wpx r (fun a S => wpx (k a S) Q X) (fun _ _ _ => False) := by
  cases r with
  | ok a S => rw [Res.bindN_ok, wpx_ok]
  | ex c d S => rw [wpx_exx]; exact wpx_stF
  | stuck => rw [wpx_stF]; exact wpx_stF
theorem wpx_of {r : Res α} {P Q : α → Sto → Prop} (h : wpx r P Y) (k : ∀ a S, P a S → Q a S) (kx : ∀ c d S, Y c d S → X c d S) : wpx r Q X := by
  cases r with
  | ok a S => exact ⟨k a S h.get⟩
  | ex c d S => exact ⟨kx c d S h.get⟩
  | stuck => exact h.get.elim
theorem wp_wpx {r : Res α} {Q : α → Sto → Prop} (h : wpx r Q fun _ _ _ => False) : wp r Q := by
  cases r with
  | ok a S => exact ⟨h.get⟩
  | ex c d S => exact h.get.elim
  | stuck => exact h.get.elim
theorem wpx_ex2 {r : Res α} {Q : α → Sto → Prop} (h : wpx r Q X) : (∃ a S, r = .ok a S ∧ Q a S) ∨ ∃ c d S, r = .ex c d S ∧ X c d S := by
  cases r with
  | ok a S => exact .inl ⟨_, _, rfl, h.get⟩
  | ex c d S => exact .inr ⟨_, _, _, rfl, h.get⟩
  | stuck => exact h.get.elim
theorem finX_same {c : Nat} : finX S c d S = .ex c d S := by
  unfold finX
  rw [if_pos rfl]
theorem finX_app {c : Nat} (hd : refsLt S.length d = true) (hc : cutOk S (S ++ T)) : finX S c d (S ++ T) = .ex c d S := by
  unfold finX
  by_cases h : (S ++ T).length = S.length
  · rw [if_pos h]
    have : T = [] := by
      rw [List.length_append] at h
      exact List.length_eq_zero_iff.mp (by omega)
    subst this
    rw [List.append_nil]
  · rw [if_neg h, if_pos ⟨hc, hd⟩, List.take_left]
theorem cutOk_app {T : Sto} : cutOk S (S ++ T) := fun n c hn e => by
  rw [List.getElem?_append_left hn] at e
  exact .inl e
/-! ### calls -/
def retQx (S0 : Sto) (Q : D → Sto → Prop) (X : Nat → D → Sto → Prop) : Flo → Sto → Prop
  | .rt d, S' => wpx (fin S0 d S') Q X
  | .nx _, S' => wpx (fin S0 .non S') Q X
  | _, _ => False
def retX (S0 : Sto) (X : Nat → D → Sto → Prop) : Nat → D → Sto → Prop := fun c d S' => wpx (finX S0 c d S' : Res D) (fun _ _ => False) X
theorem wpx_ret {r : Res Flo} {Q : D → Sto → Prop} : wpx (ret S0 r) Q X = wpx r (retQx S0 Q X) (retX S0 X) := by
  cases r with
  | ok f S' =>
    rw [wpx_ok]
    cases f with
    | rt d => rfl
    | nx ρ => rfl
    | bk ρ => exact wpx_stF
    | ct ρ => exact wpx_stF
  | ex k d S' =>
    rw [wpx_exx]
    show wpx (finX S0 k d S') Q X = wpx (finX S0 k d S') (fun _ _ => False) X
    unfold finX
    split
    · rw [wpx_exx, wpx_exx]
    · split <;> rw [wpx_exx, wpx_exx]
  | stuck => rw [wpx_stF]; exact wpx_stF
theorem retQx_rt {Q : D → Sto → Prop} : retQx S0 Q X (.rt d) S' = wpx (fin S0 d S') Q X := rfl
theorem retQx_nx {Q : D → Sto → Prop} : retQx S0 Q X (.nx ρ) S' = wpx (fin S0 .non S') Q X := rfl
theorem wpx_fin {Q : D → Sto → Prop} : wpx (fin S d S) Q X = Q d S := by rw [fin_same rfl, wpx_ok]
theorem retX_same {c : Nat} : retX S X c d S = X c d S := by
  unfold retX
  rw [finX_same, wpx_exx]
theorem retX_app {c : Nat} (hd : refsLt S.length d = true) : retX S X c d (S ++ T) = X c d S := by
  unfold retX
  rw [finX_app hd cutOk_app, wpx_exx]
theorem e_raise {k : Nat} {a : ECode} : c_raise k a ρ S = (a ρ S).bind fun d S1 => .ex k d S1 := rfl
/-! ### loops -/
section
variable {J : Env → Sto → Prop} {Q : Flo → Sto → Prop}
theorem wpx_forL {ok : Sto → Prop} {body : D → SCode} (e : α → D) (I : List α → Env → Sto → Prop) (hok : ∀ p ρ S, I p ρ S → ok S) (l : List α)
    (hs : ∀ pre x post ρ S, l = pre ++ x :: post → I pre ρ S → wpx (body (e x) ρ S) (FQ (I (pre ++ [x])) Q) X) (he : ∀ ρ S, I l ρ S → Q (.nx ρ) S) :
    ∀ (pre post : List α) ρ S, l = pre ++ post → I pre ρ S → wpx (forL ok body (post.map e) ρ S) Q X
  | pre, [], ρ, S, hl, h => by
    rw [List.append_nil] at hl
    subst hl
    rw [List.map_nil]
    unfold forL
    rw [if_pos (hok _ _ _ h)]
    exact ⟨he _ _ h⟩
  | pre, x :: post, ρ, S, hl, h => by
    rw [List.map_cons]
    unfold forL
    rw [if_pos (hok _ _ _ h), wpx_bind]
    refine wpx_of (hs pre x post ρ S hl h) (fun f S1 hf => ?_) fun _ _ _ h => h
    cases f with
    | nx ρ1 => exact wpx_forL e I hok l hs he (pre ++ [x]) post ρ1 S1 (by rw [hl]; simp) hf
    | ct ρ1 => exact wpx_forL e I hok l hs he (pre ++ [x]) post ρ1 S1 (by rw [hl]; simp) hf
    | bk ρ1 => exact ⟨hf⟩
    | rt d => exact ⟨hf⟩
theorem wpx_for {ci : Env → Sto → Res Wk} {g : D → Env → Sto → Res Env} {b : SCode} {src : List (D × List D)} (l : List α) (e : α → D) (I : List α → Env → Sto → Prop) (hc : ci ρ S = .ok ⟨l.map e, src⟩ S1) (hok : ∀ p ρ S, I p ρ S → Wk.ok ⟨l.map e, src⟩ S) (h0 : I [] ρ S1)
    (hs : ∀ pre x post ρ S, l = pre ++ x :: post → I pre ρ S → wpx ((g (e x) ρ S).bind b) (FQ (I (pre ++ [x])) Q) X) (he : ∀ ρ S, I l ρ S → Q (.nx ρ) S) : wpx (c_for ci g b ρ S) Q X := by
  unfold c_for
  rw [hc]
  exact wpx_forL (body := fun d ρ S => (g d ρ S).bind fun ρ1 S1 => b ρ1 S1) e I hok l hs he [] l ρ S1 rfl h0
/-! ### try -/
theorem wpx_try {m : Nat → Option Bool} {i : Nat} {cb cs : SCode} (h : wpx (cb ρ S) Q fun c d S1 => match m c with
      | some true => wp (cs (ρ.set i (some (.err c d))) S1) fun f S2 => S2 = S1 ∧ floOk ρ i f ∧ Q (floEnd i f) S2
      | some false => X c d S1
      | none => False) : wpx (c_try m i cb cs ρ S) Q X := by
  unfold c_try
  rcases wpx_ex2 h with ⟨a, S1, e, q⟩ | ⟨c, d, S1, e, q⟩
  · rw [e]
    exact ⟨q⟩
  · rw [e]
    cases hm : m c with
    | none => simp only [hm] at q
    | some b =>
      cases b with
      | true =>
        simp only [hm] at q ⊢
        obtain ⟨f, S2, e2, rfl, hf, q2⟩ := wp_ex q
        simp only [e2]
        rw [if_pos ⟨rfl, hf⟩]
        exact ⟨q2⟩
      | false =>
        simp only [hm] at q ⊢
        exact ⟨q⟩
end
end
/-! ### enumerate -/
section
variable {S : Sto}
theorem enum_eqW {x : D} {ds : List D} {a : ACode} {ρ : Env} {S1 : Sto} (ha : a ρ S = .ok [x] S1) (h : itemsOf x S1 = some ds) : c_enum a ρ S = .ok ⟨enumD ds, [(x, ds)]⟩ S1 := by
  unfold c_enum
  rw [ha]
  show (match itemsOf x S1 with
    | some ds => Res.ok (Wk.mk (enumD ds) [(x, ds)]) S1
    | none => .stuck) = _
  rw [h]
theorem enum_mapW {α : Type} {f : α → D} {l : List α} : enumD (l.map f) = l.zipIdx.map fun q => D.tup [.int (q.2 : Nat), f q.1] := by
  unfold enumD
  rw [List.zipIdx_map, List.map_map]
  rfl
theorem zip_split {α : Type} {l : List α} {pre post : List (α × Nat)} {x : α × Nat} (h : l.zipIdx = pre ++ x :: post) : x.2 = pre.length ∧ l = pre.map (·.1) ++ x.1 :: post.map (·.1) ∧ l.drop pre.length = x.1 :: post.map (·.1) ∧ l.drop (pre.length + 1) = post.map (·.1) ∧ pre.length < l.length := by
  have e1 : l = pre.map (·.1) ++ x.1 :: post.map (·.1) := by
    have := congrArg (List.map (·.1)) h
    rw [List.map_append, List.map_cons, List.zipIdx_map_fst] at this
    exact this
  have e2 : x.2 = pre.length := by
    have a : (l.zipIdx)[pre.length]? = some x := by rw [h]; simp
    rw [List.getElem?_zipIdx] at a
    cases hl : l[pre.length]? with
    | none => rw [hl] at a; cases a
    | some y => rw [hl] at a; cases a; simp
  have e3 : l.drop pre.length = x.1 :: post.map (·.1) := by
    rw [e1, ← List.length_map (as := pre) (f := (·.1)), List.drop_left]
  refine ⟨e2, e1, e3, ?_, ?_⟩
  · rw [← List.drop_drop, e3]
    rfl
  · rw [e1]; simp
end
end DL
set_option Elab.async false
set_option linter.all false
set_option maxRecDepth 100000
set_option maxHeartbeats 4000000
/-! DPT: texts on the plain side: numbers as words, splitting and joining, lengths -/
namespace DL
open PySem PySem.Spec PyProof.Rows L2 PySem.NumText
abbrev tl (x : PySem.Str) : List Nat := x.cps.toList
abbrev mk (l : List Nat) : PySem.Str := ⟨l.toArray⟩
def txI (a : Int) : PySem.Str := PySem.Str.ofString (toString a)
theorem tl_mk (l : List Nat) : tl (mk l) = l := rfl
theorem mk_tl (x : PySem.Str) : mk (tl x) = x := TL.mk_tl x
theorem tl_ext {x y : PySem.Str} (h : tl x = tl y) : x = y := TL.ext_tl h
theorem tl_len (x : PySem.Str) : x.length = (tl x).length := TL.len_tl x
/-! ### numbers as words -/
def isDig (c : Nat) : Bool := decide (48 ≤ c ∧ c ≤ 57)
theorem digits10 : (("0123456789" : PySem.Str)).cps.toList = [48, 49, 50, 51, 52, 53, 54, 55, 56, 57] := by decide +kernel
theorem mem_dig {c : Nat} : decide (c ∈ (("0123456789" : PySem.Str)).cps.toList) = isDig c := by
  rw [digits10]
  unfold isDig
  refine decide_eq_decide.mpr ?_
  simp only [List.mem_cons, List.not_mem_nil, or_false]
  omega
theorem allDig {cs : List Nat} : cs.all isDig = true ↔ AllDigits cs := by
  rw [List.all_eq_true]
  exact ⟨fun h c hc => of_decide_eq_true (h c hc), fun h c hc => decide_eq_true (h c hc)⟩
/-- the number that a word of at most m figures represents -/
def wordN (m : Nat) (ds : List Nat) : Bool := decide (ds.length ≤ m) && !ds.isEmpty && ds.all isDig
def wordI (m : Nat) (cs : List Nat) : Option Int := match cs with
  | 45 :: ds => if wordN m ds = true ∧ ds.head? ≠ some 48 then some (-((digitsVal ds : Nat) : Int)) else none
  | ds => if wordN m ds = true ∧ (ds.head? ≠ some 48 ∨ ds = [48]) then some ((digitsVal ds : Nat) : Int) else none
def isNeg (cs : List Nat) : Bool := cs.head? == some 45
def figs (cs : List Nat) : List Nat := if isNeg cs = true then cs.tail else cs
def valI (cs : List Nat) : Int := if isNeg cs = true then -((digitsVal (figs cs) : Nat) : Int) else ((digitsVal (figs cs) : Nat) : Int)
theorem wordI_eq (m : Nat) (cs : List Nat) : wordI m cs = if wordN m (figs cs) = true ∧ ((figs cs).head? ≠ some 48 ∨ cs = [48]) then some (valI cs) else none := by
  unfold wordI valI figs isNeg
  split
  · rename_i ds
    have e : ((45 :: ds : List Nat).head? == some 45) = true := rfl
    rw [if_pos e, if_pos e]
    have e2 : ¬ (45 :: ds = [48]) := by simp
    simp only [List.tail_cons, e2, or_false]
  · rename_i h
    have e : ¬ (cs.head? == some 45) = true := by
      intro z
      cases cs with
      | nil => simp at z
      | cons c r => exact h r (by simpa using z)
    rw [if_neg e, if_neg e]
theorem fold_acc : ∀ (cs : List Nat) (a : Nat), cs.foldl (fun acc c => acc * 10 + (c - 48)) a = a * 10 ^ cs.length + digitsVal cs
  | [], a => by show a = a * 1 + 0; omega
  | c :: cs, a => by
    have e : digitsVal (c :: cs) = (0 * 10 + (c - 48)) * 10 ^ cs.length + digitsVal cs := fold_acc cs (0 * 10 + (c - 48))
    have e0 : 0 * 10 + (c - 48) = c - 48 := by omega
    rw [e0] at e
    rw [List.foldl_cons, fold_acc cs (a * 10 + (c - 48)), e, List.length_cons, Nat.pow_succ, Nat.add_mul, Nat.mul_assoc, Nat.mul_comm 10 (10 ^ cs.length), Nat.add_assoc]
theorem digitsVal_cons (c : Nat) (cs : List Nat) : digitsVal (c :: cs) = (c - 48) * 10 ^ cs.length + digitsVal cs := by
  have e : digitsVal (c :: cs) = (0 * 10 + (c - 48)) * 10 ^ cs.length + digitsVal cs := fold_acc cs (0 * 10 + (c - 48))
  rw [e]
  congr 2
  omega
theorem digitsVal_lt : ∀ ds : List Nat, AllDigits ds → digitsVal ds < 10 ^ ds.length
  | [], _ => by decide
  | c :: ds, h => by
    have hc := h.head
    have ih := digitsVal_lt ds h.tail
    rw [digitsVal_cons, List.length_cons, Nat.pow_succ]
    have : (c - 48) * 10 ^ ds.length ≤ 9 * 10 ^ ds.length := Nat.mul_le_mul_right _ (by omega)
    omega
theorem digitsVal_ge {c : Nat} {ds : List Nat} (hc : 49 ≤ c) : 10 ^ ds.length ≤ digitsVal (c :: ds) := by
  rw [digitsVal_cons]
  have : 1 * 10 ^ ds.length ≤ (c - 48) * 10 ^ ds.length := Nat.mul_le_mul_right _ (by omega)
  omega
/-- more figures are allowed: nothing else but a great number -/
theorem wordI_more {m m' : Nat} {cs : List Nat} (h0 : 1 ≤ m) (hm : m ≤ m') : wordI m' cs = wordI m cs ∨ (wordI m cs = none ∧ ∃ i, wordI m' cs = some i ∧ (10 ^ m : Nat) ≤ i.natAbs) := by
  rw [wordI_eq, wordI_eq]
  by_cases h : wordN m (figs cs) = true
  · have h' : wordN m' (figs cs) = true := by
      unfold wordN at h ⊢
      simp only [Bool.and_eq_true, decide_eq_true_eq] at h ⊢
      exact ⟨⟨Nat.le_trans h.1.1 hm, h.1.2⟩, h.2⟩
    rw [h, h']
    exact .inl rfl
  · have hn : (if wordN m (figs cs) = true ∧ ((figs cs).head? ≠ some 48 ∨ cs = [48]) then some (valI cs) else none) = none := if_neg fun z => h z.1
    rw [hn]
    by_cases h' : wordN m' (figs cs) = true ∧ ((figs cs).head? ≠ some 48 ∨ cs = [48])
    · rw [if_pos h']
      refine .inr ⟨rfl, _, rfl, ?_⟩
      have e : (valI cs).natAbs = digitsVal (figs cs) := by unfold valI; split <;> omega
      rw [e]
      obtain ⟨h1, h2⟩ := h'
      unfold wordN at h h1
      simp only [Bool.and_eq_true, decide_eq_true_eq] at h h1
      have hl : m < (figs cs).length := by
        rcases Nat.lt_or_ge m (figs cs).length with z | z
        · exact z
        · exact absurd ⟨⟨z, h1.1.2⟩, h1.2⟩ h
      have hd := allDig.mp h1.2
      cases hf : figs cs with
      | nil => rw [hf] at hl; simp at hl
      | cons c r =>
        rw [hf] at hd hl h2
        have hc := hd.head
        by_cases h48 : c = 48
        · rcases h2 with h2 | h2
          · exact absurd (by rw [h48]; rfl) h2
          · rw [h2] at hf
            have hf : ([48] : List Nat) = c :: r := hf
            rw [← hf] at hl
            simp at hl
            omega
        · refine Nat.le_trans (Nat.pow_le_pow_right (by decide) ?_) (digitsVal_ge (by omega))
          simp at hl
          omega
    · rw [if_neg h']
      exact .inl rfl
/-! ### int(text), str(int) -/
theorem int_word {w : PySem.Str} {m : Nat} (hm : m ≤ 600) (h : wordN m (figs (tl w)) = true) (S : Sto) : p_int [.str w] S = .ok (.int (valI (tl w))) S := by
  unfold wordN at h
  simp only [Bool.and_eq_true, decide_eq_true_eq, Bool.not_eq_true', List.isEmpty_eq_false_iff] at h
  obtain ⟨⟨h1, h2⟩, h3⟩ := h
  have hd := allDig.mp h3
  have key : PySem.intText? w = some (valI (tl w)) ∧ w.length ≤ 640 := by
    rw [tl_len]
    unfold valI
    unfold figs at h1 h2 hd ⊢
    by_cases hn : isNeg (tl w) = true
    · rw [if_pos hn] at h1 h2 hd ⊢
      rw [if_pos hn]
      cases hw : tl w with
      | nil => rw [hw] at hn; cases hn
      | cons c r =>
        rw [hw] at hn h1 h2 hd
        have hc : c = 45 := by simpa [isNeg] using hn
        subst hc
        simp only [List.tail_cons] at h1 h2 hd ⊢
        have hl : w.length ≤ 4300 := by rw [tl_len, hw, List.length_cons]; omega
        exact ⟨intText_neg hw hd h2 hl, by rw [List.length_cons]; omega⟩
    · rw [if_neg hn] at h1 h2 hd ⊢
      rw [if_neg hn]
      have hl : w.length ≤ 4300 := by rw [tl_len]; omega
      exact ⟨intText_digits hd h2 hl, by omega⟩
  unfold p_int
  simp only [key.1]
  rw [if_pos key.2]
theorem tl_txI (a : Int) : tl (txI a) = if a < 0 then 45 :: TL.numL a.natAbs else TL.numL a.natAbs := by
  cases a with
  | ofNat n =>
    rw [if_neg (show ¬ (Int.ofNat n < 0) by simp)]
    exact TL.tl_num n
  | negSucc n =>
    rw [if_pos (Int.negSucc_lt_zero n)]
    have e : tl (txI (Int.negSucc n)) = ("-" ++ Nat.repr (n + 1)).toList.map Char.toNat := signs_ofString _
    rw [e, String.toList_append, List.map_append, Nat.toList_repr]
    rfl
theorem numL_eq {ds : List Nat} (h : AllDigits ds) (hne : ds ≠ []) : TL.numL (digitsVal ds) = ds ↔ (ds.head? ≠ some 48 ∨ ds = [48]) := by
  have char : ∀ l : List Nat, AllDigits l → (l.map Char.ofNat).map Char.toNat = l := fun l => by
    induction l with
    | nil => intro _; rfl
    | cons c l ih =>
      intro hl
      rw [List.map_cons, List.map_cons, ih hl.tail]
      have hc := hl.head
      have hall : ∀ k : Nat, k < 10 → (Char.ofNat (48 + k)).toNat = 48 + k := by decide
      have : (Char.ofNat c).toNat = c := by
        have := hall (c - 48) (by omega)
        rwa [show 48 + (c - 48) = c by omega] at this
      rw [this]
  unfold TL.numL
  rw [toDigits_all ds h]
  cases ds with
  | nil => exact absurd rfl hne
  | cons c r =>
    by_cases hc : c = 48
    · subst hc
      have e : ((48 :: r : List Nat)).dropWhile (· == 48) = r.dropWhile (· == 48) := rfl
      rw [e]
      constructor
      · intro z
        refine .inr ?_
        have hl : (r.dropWhile (· == 48)).length ≤ r.length := (List.dropWhile_sublist _).length_le
        cases hr : r.dropWhile (· == 48) with
        | nil =>
          rw [hr] at z
          injection z with _ z
          rw [← z]
          rfl
        | cons d t =>
          rw [hr] at z hl
          have z2 := congrArg List.length z
          simp at z2 hl
          omega
      · rintro (z | z)
        · exact absurd rfl z
        · injection z with _ z
          rw [z]
          rfl
    · have e : ((c :: r : List Nat)).dropWhile (· == 48) = c :: r := by
        rw [List.dropWhile_cons, if_neg (by rw [beq_iff_eq]; exact hc)]
      rw [e]
      refine ⟨fun _ => .inl (by simpa using hc), fun _ => char _ h⟩
/-- str(int(w)) == w -/
theorem str_back {w : PySem.Str} {m : Nat} (h : wordN m (figs (tl w)) = true) : txI (valI (tl w)) = w ↔ ((figs (tl w)).head? ≠ some 48 ∨ tl w = [48]) := by
  unfold wordN at h
  simp only [Bool.and_eq_true, decide_eq_true_eq, Bool.not_eq_true', List.isEmpty_eq_false_iff] at h
  obtain ⟨⟨h1, h2⟩, h3⟩ := h
  have hd := allDig.mp h3
  have ext : txI (valI (tl w)) = w ↔ tl (txI (valI (tl w))) = tl w := ⟨fun z => by rw [z], fun z => tl_ext z⟩
  rw [ext]
  unfold valI
  by_cases hn : isNeg (tl w) = true
  · have hf : figs (tl w) = (tl w).tail := if_pos hn
    rw [if_pos hn, hf]
    rw [hf] at hd h2
    generalize hdv : digitsVal (tl w).tail = V
    rw [tl_txI]
    cases hw : tl w with
    | nil => rw [hw] at hn; cases hn
    | cons c r =>
      rw [hw] at hn hd h2 hdv
      have hc : c = 45 := by simpa [isNeg] using hn
      subst hc
      simp only [List.tail_cons] at hd h2 hdv ⊢
      have hne : ¬ (45 :: r = [48]) := by simp
      rw [or_iff_left hne]
      by_cases h0 : V = 0
      · subst h0
        rw [if_neg (by decide)]
        have hn0 : TL.numL (Int.natAbs (-((0 : Nat) : Int))) = [48] := by decide
        rw [hn0]
        refine ⟨fun z => (by simp at z), fun z => ?_⟩
        exfalso
        cases r with
        | nil => exact h2 rfl
        | cons d t =>
          have hd0 := hd.head
          have h48 : d ≠ 48 := by simpa using z
          have := digitsVal_ge (c := d) (ds := t) (by omega)
          have hp : 0 < 10 ^ t.length := Nat.pow_pos (by decide)
          omega
      · rw [if_pos (by omega)]
        have e : (-((V : Nat) : Int)).natAbs = V := by omega
        rw [e]
        refine ⟨fun z => ?_, fun z => ?_⟩
        · injection z with _ z
          rcases (numL_eq hd h2).mp (by rw [hdv]; exact z) with q | q
          · exact q
          · rw [q] at hdv
            exact absurd hdv.symm h0
        · have := (numL_eq hd h2).mpr (.inl z)
          rw [hdv] at this
          rw [this]
  · rw [if_neg hn]
    have hf : figs (tl w) = tl w := if_neg hn
    rw [hf] at hd h2 ⊢
    rw [tl_txI, if_neg (by omega)]
    exact numL_eq hd h2
theorem txI_len {a : Int} {m : Nat} (hm : 0 < m) (h : a.natAbs < 10 ^ m) : (txI a).length ≤ m + 1 := by
  rw [tl_len, tl_txI]
  have := TL.numL_len hm h
  split
  · rw [List.length_cons]; omega
  · omega
theorem str_int {a : Int} (h : a.natAbs < 2 ^ 160) (S : Sto) : p_str [.int a] S = .ok (.str (txI a)) S := by
  have hl : a.natAbs.log2 < 1920 := by
    rcases Nat.eq_zero_or_pos a.natAbs with e | e
    · rw [e]; decide
    · exact Nat.lt_trans ((Nat.log2_lt (by omega)).mpr h) (by decide)
  exact if_pos hl
/-- a number's text is read back -/
theorem word_txI {a : Int} {m : Nat} (hm : 0 < m) (h : a.natAbs < 10 ^ m) : wordI m (tl (txI a)) = some a := by
  have hne := TL.numL_ne a.natAbs
  have hd := TL.numL_digits a.natAbs
  have hl := TL.numL_len hm h
  have hv := TL.numL_val a.natAbs
  have hN : wordN m (TL.numL a.natAbs) = true := by
    unfold wordN
    rw [allDig.mpr hd, decide_eq_true hl]
    cases h : TL.numL a.natAbs with
    | nil => exact absurd h hne
    | cons _ _ => rfl
  have h48 := (numL_eq hd hne).mp (by rw [hv])
  rw [wordI_eq, tl_txI]
  by_cases hn : a < 0
  · rw [if_pos hn]
    have e1 : isNeg (45 :: TL.numL a.natAbs) = true := rfl
    have e2 : figs (45 :: TL.numL a.natAbs) = TL.numL a.natAbs := by unfold figs; rw [if_pos e1]; rfl
    have h0 : ¬ TL.numL a.natAbs = [48] := fun z => by
      rw [z] at hv
      have : digitsVal [48] = 0 := rfl
      omega
    rw [e2, if_pos ⟨hN, .inl (h48.resolve_right h0)⟩]
    unfold valI
    rw [if_pos e1, e2, hv]
    congr 1
    omega
  · rw [if_neg hn]
    have e1 : isNeg (TL.numL a.natAbs) = false := by
      cases h : TL.numL a.natAbs with
      | nil => exact absurd h hne
      | cons c r =>
        have hc := hd c (by rw [h]; simp)
        unfold isNeg
        simp only [List.head?_cons]
        refine beq_eq_false_iff_ne.mpr fun z => ?_
        injection z with z
        omega
    have e2 : figs (TL.numL a.natAbs) = TL.numL a.natAbs := by unfold figs; rw [e1]; rfl
    rw [e2, if_pos ⟨hN, h48⟩]
    unfold valI
    rw [if_neg (by rw [e1]; exact Bool.false_ne_true), e2, hv]
    congr 1
    omega
/-! ### slices of texts -/
theorem sl_from {b : Bool} {w : PySem.Str} {k : Nat} (h : w.length ≤ 1000000) (S : Sto) : p_sl b (.str w) (some (k : Int)) none S = .ok (.str (mk ((tl w).drop k))) S := by
  have e : cutS w (some (k : Int)) none = mk ((tl w).drop k) := by
    unfold cutS
    rw [HT.sIx_nat, HT.sIx_none, tl_len]
    congr 1
    by_cases hk : k ≤ (tl w).length
    · rw [Nat.min_eq_left hk, List.take_of_length_le (by rw [List.length_drop]; exact Nat.le_refl _)]
    · rw [Nat.min_eq_right (by omega), Nat.sub_self, List.take_zero, List.drop_of_length_le (by omega)]
  show (if w.length ≤ 1000000 then Res.ok (D.str (cutS w (some (k : Int)) none)) S else .stuck) = _
  rw [if_pos h, e]
theorem sl_to {b : Bool} {w : PySem.Str} {k : Nat} (h : w.length ≤ 1000000) (S : Sto) : p_sl b (.str w) none (some (k : Int)) S = .ok (.str (mk ((tl w).take k))) S := by
  have e : cutS w none (some (k : Int)) = mk ((tl w).take k) := by
    unfold cutS
    rw [HT.sIx_nat, HT.sIx_none, tl_len, List.drop_zero, Nat.sub_zero]
    congr 2
    by_cases hk : k ≤ (tl w).length
    · rw [Nat.min_eq_left hk]
    · rw [Nat.min_eq_right (by omega), List.take_of_length_le (Nat.le_refl _), List.take_of_length_le (by omega)]
  show (if w.length ≤ 1000000 then Res.ok (D.str (cutS w none (some (k : Int)))) S else .stuck) = _
  rw [if_pos h, e]
theorem mk_inj {l m : List Nat} : mk l = mk m ↔ l = m := ⟨fun h => by have := congrArg tl h; exact this, fun h => by rw [h]⟩
theorem dash : ("-" : PySem.Str) = mk [45] := by decide +kernel
theorem txt0 : ("0" : PySem.Str) = mk [48] := by decide +kernel
theorem txtE : ("" : PySem.Str) = mk [] := by decide +kernel
theorem eqS_eq {n : Bool} {a b : PySem.Str} (S : Sto) : p_eqS n (.str a) (.str b) S = .ok (.bl (if n = true then !decide (a = b) else decide (a = b))) S := rfl
theorem neg_iff {w : PySem.Str} : mk ((tl w).take 1) = ("-" : PySem.Str) ↔ isNeg (tl w) = true := by
  rw [dash, mk_inj]
  unfold isNeg
  cases tl w with
  | nil => simp
  | cons c r => simp
theorem figs_drop {w : PySem.Str} (h : isNeg (tl w) = true) : mk ((tl w).drop 1) = mk (figs (tl w)) := by
  unfold figs
  rw [if_pos h, List.drop_one]
/-- x[0] of a text -/
theorem ixS0 {w : PySem.Str} {c : Nat} {r : List Nat} (h : tl w = c :: r) (hl : w.length ≤ 1000000) (S : Sto) : p_ix (.str w) (.int 0) S = .ok (.str (mk [c])) S := by
  show (if w.length ≤ 1000000 then match atI w.cps.toList 0 with
      | some c => Res.ok (D.str ⟨#[c]⟩) S
      | none => .stuck else .stuck) = _
  rw [if_pos hl]
  have e : atI w.cps.toList 0 = some c := by
    have h2 : w.cps.toList = c :: r := h
    rw [h2]
    unfold atI
    rw [ixN_nn (by decide) (by simp)]
    rfl
  rw [e]
theorem lenS {w : PySem.Str} (h : w.length ≤ 1000000) (S : Sto) : p_len [.str w] S = .ok (.int (w.length : Nat)) S := by
  exact if_pos h
/-! ### None in a row of words -/
def optD : Option Int → D
  | some i => .int i
  | none => .non
theorem in_opt {l : List (Option Int)} (S : Sto) : p_in false .non (.tup (l.map optD)) S = .ok (.bl (l.any (·.isNone))) S := by
  unfold p_in
  have e : itemsOf (.tup (l.map optD)) S = some (l.map optD) := rfl
  simp only [e]
  have f : flatD .non = true ∧ (l.map optD).all flatD = true := ⟨rfl, by
    rw [List.all_map, List.all_eq_true]
    intro x _
    cases x <;> rfl⟩
  have g : ((l.map optD).any fun y => eqD y .non) = l.any (·.isNone) := by
    rw [List.any_map]
    congr 1
    funext x
    cases x <;> rfl
  rw [if_pos f, if_neg Bool.false_ne_true, g]
theorem e_chain3 {p p' p'' : D → D → Sto → Res D} {a b c d : ECode} {ρ : Env} {S : Sto} : c_chain3 p p' p'' a b c d ρ S = (a ρ S).bind fun x S1 => (b ρ S1).bind fun y S2 => (p x y S2).bind fun z S3 => (asB z S3).bind fun k S4 =>
  if k = true then (c ρ S4).bind fun w S5 => (p' y w S5).bind fun z' S6 => (asB z' S6).bind fun k' S7 => if k' = true then (d ρ S7).bind fun w2 S8 => p'' w w2 S8 else .ok (.bl false) S7 else .ok (.bl false) S4 := rfl
theorem wordI_lt {m : Nat} {cs : List Nat} {i : Int} (h : wordI m cs = some i) : i.natAbs < 10 ^ m := by
  rw [wordI_eq] at h
  split at h
  · rename_i hc
    cases h
    have e : (valI cs).natAbs = digitsVal (figs cs) := by unfold valI; split <;> omega
    rw [e]
    have h1 := hc.1
    unfold wordN at h1
    simp only [Bool.and_eq_true, decide_eq_true_eq] at h1
    exact Nat.lt_of_lt_of_le (digitsVal_lt _ (allDig.mp h1.2)) (Nat.pow_le_pow_right (by decide) h1.1.1)
  · cases h
end DL
set_option Elab.async false
set_option linter.all false
set_option maxRecDepth 100000
set_option maxHeartbeats 4000000
local macro_rules
  | `(tactic| push_cast [$ls,*] $[$loc]?) => `(tactic| (try simp (maxSteps := 2000000) -implicitDefEqProofs (disch := first | omega | (simp only [List.length_map, List.length_cons, List.length_nil, List.length_range, List.length_append, List.length_replicate]; omega)) only [DL.e_d, DL.e_op, DL.e_un, DL.e_test, DL.e_asB, DL.e_and, DL.e_or, DL.e_not,
    DL.e_if, DL.e_andV, DL.e_orV, DL.e_notV, DL.e_chain, DL.e_nil, DL.e_cons, DL.e_tup,
    DL.e_lst, DL.e_cb, DL.e_callK, DL.e_meth, DL.e_methP, DL.e_smeth, DL.e_cval, DL.e_fld,
    DL.e_prop, DL.e_star, DL.e_ps0, DL.e_ps, DL.e_dispK, DL.e_dispT, DL.e_dK0, DL.e_dT0,
    DL.e_frz, DL.e_no, DL.e_part, DL.e_sl, DL.s_set, DL.s_asg, DL.s_nx, DL.s_seq,
    DL.s_expr, DL.s_ret, DL.s_retN, DL.s_brk, DL.s_cont, DL.s_stuck, DL.s_ifS, DL.s_aug,
    DL.s_par, DL.s_par3, DL.s_setI, DL.s_fldS, DL.g_name_eq, DL.g_nil_eq, DL.g_cons_eq, DL.g_tup_eq,
    DL.v_add, DL.v_addI, DL.v_sub, DL.v_neg, DL.v_lt, DL.v_le, DL.v_gt, DL.v_ge,
    DL.v_eq, DL.v_isN, DL.v_tupcat, DL.Res.bind_ok, DL.Res.bindN_ok, DL.ret_rt, DL.ret_nx, DL.ev_v0,
    DL.ev_vs, DL.ev_a1, DL.ev_a2, DL.ev_a3, DL.ev_a4, List.set_cons_zero, List.set_cons_succ, decide_true,
    decide_false, Bool.not_true, Bool.not_false, if_true, Bool.false_eq_true, if_false, DL.e_cb, DL.e_yes,
    DL.wp_ok, DL.wp_bind, DL.wp_bindN, DL.wp_ret, DL.retQ_rt, DL.retQ_nx, DL.wp_fin, DL.FQ_nx,
    DL.FQ_ct, DL.FQ_bk, DL.FQ_rt, DL.addO_some, DL.addO_none, DL.isCon_self, DL.v_mulC, DL.v_fdivC,
    DL.v_modC, DL.ix_t0, DL.ix_t1, DL.ix_t2, DL.ix_l0, DL.ix_l1, DL.ix_l2, DL.isi_int_int,
    DL.isi_int_bool, DL.min2_eq, DL.max2_eq, DL.tup_f, DL.lst_f, DL.list_tup, DL.list_lst, DL.tuple_lst,
    DL.len_lst, DL.len_tup, DL.wipeE, DL.lcB, DL.cls_obj, DL.flds_obj, DL.isiO_obj, DL.v_augS,
    DL.v_methK, DL.v_makeK, DL.ev_a5, DL.ev_a6, DL.ev_a7, DL.v_mulB, eq_self, and_self,
    List.length_nil, List.length_cons, List.getElem?_cons_zero, List.getElem?_cons_succ, DL.list_tup_t, List.append_assoc, List.nil_append, List.cons_append,
    DL.wpx_ok, DL.wpx_exx, DL.wpx_bind, DL.wpx_bindN, DL.wpx_ret, DL.retQx_rt, DL.retQx_nx, DL.wpx_fin,
    DL.retX_same, DL.e_raise, $ls,*] $[$loc]?))
namespace K52
open PySem PySem.Spec PyProof.Rows L2 DL
section
variable {G : Gx} {S : Sto}
/-! ### numbers -/
theorem reduced_modulo_eq {p x : Int} (h : 0 < p) (h2 : p < 2 ^ 40) : m_reduced_modulo G [.int x, .int p] S = .ok (.int (red p x)) S := by
  refine eq_wp ?_
  rw [m_reduced_modulo, fnR_eq]
  show wp (ret S (c_reduced_modulo G [some (.int x), some (.int p), none] S)) _
  unfold c_reduced_modulo
  have h1 := Int.emod_nonneg x (show p ≠ 0 by omega)
  have h3 := Int.emod_lt_of_pos x h
  unfold red
  by_cases hc : p < 2 * (x % p)
  · push_cast [hc]
    all_goals first | exact ⟨rfl, trivial⟩ | exact ⟨trivial, trivial⟩ | exact trivial | exact ⟨rfl, rfl⟩
  · push_cast [hc]
    all_goals first | exact ⟨rfl, trivial⟩ | exact ⟨trivial, trivial⟩ | exact trivial | exact ⟨rfl, rfl⟩
/-! ### primes -/
def powF : Nat → Int → Int → Int → Int → Int
  | 0, r, _, _, _ => r
  | f + 1, r, s, l, p => if 0 < l then powF f (if l % 2 = 1 then r * s % p else r) (s * s % p) (l / 2) p else r
theorem power_of_eq {b e p : Int} (f : Nat) (hp : 1 < p) (hp2 : p < 2 ^ 32) (he : 0 ≤ e) (he2 : e < 2 ^ f) (hf : f ≤ 1000) : m_power_of G [.int b, .int e, .int p] S = .ok (.int (red p (powF f 1 (b % p) e p))) S := by
  refine eq_wp ?_
  rw [m_power_of, fnR_eq]
  show wp (ret S (c_power_of G [some (.int b), some (.int e), some (.int p), none, none, none] S)) _
  unfold c_power_of
  have b0 := Int.emod_nonneg b (show p ≠ 0 by omega)
  have b1 := Int.emod_lt_of_pos b (show 0 < p by omega)
  push_cast []
  refine wp_while f (fun m ρ S' => ∃ r s l : Int, ρ = [some (.int b), some (.int e), some (.int p), some (.int r), some (.int s), some (.int l)] ∧ S' = S ∧ 0 ≤ r ∧ r < p ∧ 0 ≤ s ∧ s < p ∧ 0 ≤ l ∧ l < 2 ^ m ∧ powF m r s l p = powF f 1 (b % p) e p) (by omega) ⟨1, b % p, e, rfl, rfl, by omega, hp, b0, b1, he, he2, rfl⟩ ?_
  rintro m ρ S' ⟨r, s, l, rfl, rfl, r0, r1, s0, s1, l0, l1, hr⟩
  by_cases hc : 0 < l
  · obtain ⟨m, rfl⟩ : ∃ k, m = k + 1 := by
      cases m with
      | zero => exact absurd l1 (by simp; omega)
      | succ k => exact ⟨k, rfl⟩
    have hl : l / 2 < 2 ^ m := by rw [Int.pow_succ] at l1; omega
    have q1 := Int.emod_nonneg (r * s) (show p ≠ 0 by omega)
    have q2 := Int.emod_lt_of_pos (r * s) (show 0 < p by omega)
    have q3 := Int.emod_nonneg (s * s) (show p ≠ 0 by omega)
    have q4 := Int.emod_lt_of_pos (s * s) (show 0 < p by omega)
    rw [powF.eq_2, if_pos hc] at hr
    by_cases h2 : l % 2 = 1
    · push_cast [hc, h2]
      rw [if_pos h2] at hr
      exact ⟨m, by omega, _, _, _, rfl, trivial, q1, q2, q3, q4, by omega, hl, hr⟩
    · push_cast [hc, h2]
      rw [if_neg h2] at hr
      exact ⟨m, by omega, _, _, _, rfl, trivial, r0, r1, q3, q4, by omega, hl, hr⟩
  · have hr2 : powF m r s l p = r := by
      cases m with
      | zero => rfl
      | succ m => unfold powF; rw [if_neg hc]
    rw [hr2] at hr
    push_cast [hc, mp_reduced_modulo, reduced_modulo_eq (S := S') (G := G) (p := p) (x := r)]
    rw [hr]
    all_goals first | exact ⟨rfl, trivial⟩ | exact ⟨trivial, trivial⟩ | exact trivial | exact ⟨rfl, rfl⟩
def is1 (x : Int) : Bool := (1 == x) || ((-1 == x) || false)
/-- n - 1 = odd * 2 ^ twos -/
def oddF : Nat → Int → Int → Int × Int
  | 0, o, t => (o, t)
  | f + 1, o, t => if o % 2 = 0 then oddF f (o / 2) (t + 1) else (o, t)
def sqF : Nat → Int → Int → Bool
  | 0, _, _ => false
  | t + 1, w, n => if red n (w * w) = -1 then true else sqF t (red n (w * w)) n
def isPb (n b : Int) : Bool :=
  let o := oddF 40 (n - 1) 0
  let w := red n (powF 40 1 (b % n) o.1 n)
  if is1 w = true then true else sqF (o.2 - 1).toNat w n
def divs (n : Int) : List Int → Option Bool
  | [] => none
  | x :: l => if n % x = 0 then some (decide (n = x)) else divs n l
def isPr (n : Int) : Bool := (divs n [2, 3, 5, 7]).getD (([2, 3, 5, 7] : List Int).all (isPb n))
theorem is_probable_eq {n b : Int} (h3 : 3 < n) (hn : n < 2 ^ 31) : m_is_probable G [.int n, .int b] S = .ok (.bl (isPb n b)) S := by
  refine eq_wp ?_
  rw [m_is_probable, fnR_eq]
  show wp (ret S (c_is_probable G [some (.int n), some (.int b), none, none, none, none] S)) _
  unfold c_is_probable
  push_cast []
  refine wp_while 40 (fun m ρ S' => ∃ o t : Int, ρ = [some (.int n), some (.int b), some (.int o), some (.int t), none, none] ∧ S' = S ∧ 0 < o ∧ o < 2 ^ m ∧ o < n ∧ 0 ≤ t ∧ t ≤ 40 - m ∧ oddF m o t = oddF 40 (n - 1) 0) (by omega) ⟨n - 1, 0, rfl, rfl, by omega, by omega, by omega, by omega, by omega, rfl⟩ ?_
  rintro m ρ S' ⟨o, t, rfl, rfl, o0, o1, o2, t0, t1, hr⟩
  by_cases hc : o % 2 = 0
  · obtain ⟨m, rfl⟩ : ∃ k, m = k + 1 := by
      cases m with
      | zero => exact absurd o1 (by simp; omega)
      | succ k => exact ⟨k, rfl⟩
    have hl : o / 2 < 2 ^ m := by rw [Int.pow_succ] at o1; omega
    rw [oddF.eq_2, if_pos hc] at hr
    push_cast [hc]
    exact ⟨m, by omega, _, _, rfl, trivial, by omega, hl, by omega, by omega, by omega, hr⟩
  · have hr2 : oddF m o t = (o, t) := by
      cases m with
      | zero => rfl
      | succ m => rw [oddF.eq_2, if_neg hc]
    rw [hr2] at hr
    have hm : m ≤ 40 := by omega
    push_cast [hc, mp_power_of, power_of_eq (S := S') (G := G) (b := b) (e := o) (p := n) 40 (by omega) (by omega) (by omega) (by omega) (by omega)]
    have hw : isPb n b = if is1 (red n (powF 40 1 (b % n) o n)) = true then true else sqF (t - 1).toNat (red n (powF 40 1 (b % n) o n)) n := by
      unfold isPb
      rw [← hr]
    rw [hw]
    generalize hwv : red n (powF 40 1 (b % n) o n) = w
    have w0 := red_range (p := n) (x := powF 40 1 (b % n) o n) (by omega)
    rw [hwv] at w0
    have hin : p_in false (.int w) (.tup [.int 1, .int (-1)]) S' = .ok (.bl (is1 w)) S' := rfl
    push_cast [hin]
    by_cases h1 : is1 w = true
    · push_cast [h1]
      all_goals first | exact ⟨rfl, trivial⟩ | exact ⟨trivial, trivial⟩ | exact trivial | exact ⟨rfl, rfl⟩
    · push_cast [h1]
      refine wp_for (List.range (t - 1).toNat) (fun (k : Nat) => D.int (0 + (k : Int))) (fun pre ρ S2 => ∃ w' o5, ρ = [some (.int n), some (.int b), some (.int o), some (.int t), some (.int w'), o5] ∧ S2 = S' ∧ -n < 2 * w' ∧ 2 * w' ≤ n ∧ sqF ((t - 1).toNat - pre.length) w' n = sqF (t - 1).toNat w n) (rng1 (by push_cast []) ⟨by omega, by omega⟩) (fun _ _ _ _ => ok_nil) ⟨w, none, rfl, rfl, w0.1, w0.2, rfl⟩ ?_ ?_
      · rintro pre x post ρ S2 hl ⟨w', o5, rfl, rfl, a1, a2, a3⟩
        have hlen : pre.length < (t - 1).toNat := by
          have := congrArg List.length hl
          simp at this
          omega
        obtain ⟨q, hq⟩ : ∃ q, (t - 1).toNat - pre.length = q + 1 := ⟨_, (Nat.succ_pred_eq_of_pos (by omega)).symm⟩
        rw [hq, sqF.eq_2] at a3
        have w1 := red_range (p := n) (x := w' * w') (by omega)
        push_cast [mp_reduced_modulo, reduced_modulo_eq (S := S2) (G := G) (p := n) (x := w' * w') (by omega) (by omega)]
        by_cases h5 : red n (w' * w') = -1
        · rw [if_pos h5] at a3
          push_cast [h5]
          rw [← a3]
          all_goals first | exact ⟨rfl, trivial⟩ | exact ⟨trivial, trivial⟩ | exact trivial | exact ⟨rfl, rfl⟩
        · rw [if_neg h5] at a3
          push_cast [h5]
          exact ⟨_, _, rfl, trivial, w1.1, w1.2, by rw [List.length_append, List.length_singleton, ← Nat.sub_sub, hq]; exact a3⟩
      · rintro ρ S2 ⟨w', o5, rfl, rfl, a1, a2, a3⟩
        push_cast []
        rw [List.length_range, Nat.sub_self] at a3
        exact ⟨congrArg D.bl a3, trivial⟩
theorem is_odd_prime_eq {n : Int} (h3 : 3 ≤ n) (hn : n < 2 ^ 31) : m_is_odd_prime G [.int n] S = .ok (.bl (isPr n)) S := by
  refine eq_wp ?_
  rw [m_is_odd_prime, fnR_eq]
  show wp (ret S (c_is_odd_prime G [some (.int n), none] S)) _
  unfold c_is_odd_prime
  push_cast []
  refine wp_for [2, 3, 5, 7] D.int (fun pre ρ S' => ∃ o, ρ = [some (.int n), o] ∧ S' = S ∧ (∀ x ∈ pre, n % x ≠ 0) ∧ ∀ post, [2, 3, 5, 7] = pre ++ post → divs n post = divs n [2, 3, 5, 7]) (it_eq (x := k_BASES) (by push_cast []) rfl) (fun _ _ _ _ => ok_one rfl) ⟨none, rfl, rfl, fun _ h => (by cases h), fun post h => by rw [h]; rfl⟩ ?_ ?_
  · rintro pre x post ρ S2 hl ⟨o, rfl, rfl, h1, h2⟩
    have h5 := h2 (x :: post) hl
    have hx : 0 < x := by
      have : x ∈ [2, 3, 5, 7] := by rw [hl]; simp
      simp at this
      omega
    rw [divs.eq_2] at h5
    by_cases hc : n % x = 0
    · rw [if_pos hc] at h5
      have h5' := h5.symm
      push_cast [hc]
      refine ⟨?_, trivial⟩
      unfold isPr
      rw [h5']
      rfl
    · rw [if_neg hc] at h5
      push_cast [hc]
      refine ⟨_, rfl, trivial, fun y hy => ?_, fun post' hp => ?_⟩
      · rcases List.mem_append.mp hy with hy | hy
        · exact h1 y hy
        · have : y = x := by simpa using hy
          rw [this]; exact hc
      · rw [hl] at hp
        have hp' : post = post' := by simpa using hp
        subst hp'
        exact h5
  · rintro ρ S2 ⟨o, rfl, rfl, h1, h2⟩
    have h30 := h1 3 (by simp)
    have h4 : 3 < n := by omega
    push_cast [lc_eqM (S := S2) (ci := c_it (c_d k_BASES)) (g := g_name 1) (t := c_yes) (a := c_cb (mp_is_probable G) (c_cons (c_var 0) (c_cons (c_var 1) c_nil))) (own := [1]) (ρ := [some (.int n), o]) [2, 3, 5, 7] D.int (fun b => .bl (isPb n b)) (it_eq (x := k_BASES) rfl rfl) (by decide) (ok_one rfl) (fun x _ => by push_cast [mp_is_probable, is_probable_eq (S := S2) (G := G) (n := n) (b := x) h4 hn]), all_bls]
    have h5 := h2 [] (by simp)
    refine ⟨?_, trivial⟩
    unfold isPr
    rw [← h5]
    rfl
theorem is_between_eq {x a b : Int} : m_is_between G [.int x, .int a, .int b] S = .ok (.bl (decide (a ≤ x) && decide (x ≤ b))) S := by
  refine eq_wp ?_
  rw [m_is_between, fnR_eq]
  show wp (ret S (c_is_between G [some (.int x), some (.int a), some (.int b)] S)) _
  unfold c_is_between
  by_cases h1 : a ≤ x
  · by_cases h2 : x ≤ b
    · push_cast [h1, h2]; all_goals first | exact ⟨rfl, trivial⟩ | exact ⟨trivial, trivial⟩ | exact trivial | exact ⟨rfl, rfl⟩
    · push_cast [h1, h2]; all_goals first | exact ⟨rfl, trivial⟩ | exact ⟨trivial, trivial⟩ | exact trivial | exact ⟨rfl, rfl⟩
  · push_cast [h1]; all_goals first | exact ⟨rfl, trivial⟩ | exact ⟨trivial, trivial⟩ | exact trivial | exact ⟨rfl, rfl⟩
theorem is_prime_eq {n : Int} (h3 : 3 ≤ n) (hn : n ≤ 1000000000) : m_Scheme_is_prime G [.int n] S = .ok (.bl (isPr n)) S := by
  refine eq_wp ?_
  rw [m_Scheme_is_prime, fnR_eq]
  show wp (ret S (c_Scheme_is_prime G [some (.int n)] S)) _
  unfold c_Scheme_is_prime
  push_cast [mp_is_between, is_between_eq (G := G) (S := S) (x := n) (a := 3) (b := 1000000000), h3, hn, Bool.and_self, mp_is_odd_prime, is_odd_prime_eq (G := G) (S := S) h3 (show n < 2 ^ 31 by omega)]
  all_goals first | exact ⟨rfl, trivial⟩ | exact ⟨trivial, trivial⟩ | exact trivial | exact ⟨rfl, rfl⟩
theorem scheme_init {S : Sto} {p n k : Int} (h3 : 3 ≤ p) (hp : p ≤ 1000000000) (hpr : isPr p = true) (hn : 2 ≤ n) (hn2 : n ≤ 24) (hnp : n * n < p) (hk : 1 ≤ k) (hk2 : k ≤ 24) :
    mp_Scheme__init_ G [.ref S.length, .int p, .int n, .int k] (S ++ [some (Cell.ins 0 [])]) = .ok .non (S ++ [some (Cell.ins 0 [.int p, .int n, .int k])]) := by
  refine eq_wp ?_
  have hge : ¬ p ≤ n * n := by omega
  have e0 : ∀ S, p_ge (.int (n * n)) (.int p) S = .ok (.bl false) S := fun S => by push_cast [hge]
  rw [mp_Scheme__init_, ev_a4, m_Scheme__init_, fnR_eq]
  generalize hS : S ++ [some (Cell.ins 0 [])] = S1
  show wp (ret S1 (c_Scheme__init_ G [some (.ref S.length), some (.int p), some (.int n), some (.int k)] S1)) _
  unfold c_Scheme__init_ k_LEAST_ACCOUNTS
  push_cast [mp_Scheme_is_prime, is_prime_eq (G := G) (S := S1) h3 hp, hpr, mp_is_between, is_between_eq (G := G) (S := S1), hn, hn2, hk, hk2, hge, Bool.and_self]
  subst hS
  push_cast [setF_snoc (S := S) (c := 0) (i := 0) (fs := []) (v := .int p) rfl (by decide)]
  push_cast [setF_snoc (S := S) (c := 0) (i := 1) (fs := [.int p]) (v := .int n) rfl (by simp)]
  push_cast [setF_snoc (S := S) (c := 0) (i := 2) (fs := [.int p, .int n]) (v := .int k) rfl (by simp)]
  exact wp_fin_len (by simp) (by simp)
theorem scheme_eq {p n k : Int} (h3 : 3 ≤ p) (hp : p ≤ 1000000000) (hpr : isPr p = true) (hn : 2 ≤ n) (hn2 : n ≤ 24) (hnp : n * n < p) (hk : 1 ≤ k) (hk2 : k ≤ 24) : p_make false 0 (mp_Scheme__init_ G) [.int p, .int n, .int k] S = .ok (.obj 0 [.int p, .int n, .int k]) S :=
  make_frz (scheme_init h3 hp hpr hn hn2 hnp hk hk2) (by simp only [refsLtL, refsLt, Bool.and_self])
/-! evaluated step by step -/
def frc {α : Type} (x : Int) (k : Int → α) : α := match x with
  | .ofNat n => Nat.rec (k (.ofNat 0)) (fun m _ => k (.ofNat (m + 1))) n
  | .negSucc n => Nat.rec (k (.negSucc 0)) (fun m _ => k (.negSucc (m + 1))) n
theorem frc_eq {α : Type} (x : Int) (k : Int → α) : frc x k = k x := by
  unfold frc
  cases x with
  | ofNat n => cases n <;> rfl
  | negSucc n => cases n <;> rfl
def powE : Nat → Int → Int → Int → Int → Int
  | 0, r, _, _, _ => r
  | f + 1, r, s, l, p => if 0 < l then frc (if l % 2 = 1 then r * s % p else r) fun r' => frc (s * s % p) fun s' => frc (l / 2) fun l' => powE f r' s' l' p else r
theorem powE_eq : ∀ f r s l p, powE f r s l p = powF f r s l p
  | 0, _, _, _, _ => rfl
  | f + 1, r, s, l, p => by
    rw [powE.eq_2, powF.eq_2]
    simp only [frc_eq, powE_eq f]
def oddE : Nat → Int → Int → Int × Int
  | 0, o, t => (o, t)
  | f + 1, o, t => if o % 2 = 0 then frc (o / 2) fun o' => frc (t + 1) fun t' => oddE f o' t' else (o, t)
theorem oddE_eq : ∀ f o t, oddE f o t = oddF f o t
  | 0, _, _ => rfl
  | f + 1, o, t => by
    rw [oddE.eq_2, oddF.eq_2]
    simp only [frc_eq, oddE_eq f]
def sqE : Nat → Int → Int → Bool
  | 0, _, _ => false
  | t + 1, w, n => frc (red n (w * w)) fun w' => if w' = -1 then true else sqE t w' n
theorem sqE_eq : ∀ t w n, sqE t w n = sqF t w n
  | 0, _, _ => rfl
  | t + 1, w, n => by
    rw [sqE.eq_2, sqF.eq_2]
    simp only [frc_eq, sqE_eq t]
def isPbE (n b : Int) : Bool := match oddE 40 (n - 1) 0 with
  | (o, t) => frc (powE 40 1 (b % n) o n) fun w0 => frc (red n w0) fun w => if is1 w = true then true else sqE (t - 1).toNat w n
theorem isPbE_eq (n b : Int) : isPbE n b = isPb n b := by
  unfold isPbE isPb
  rw [oddE_eq]
  simp only [frc_eq, powE_eq, sqE_eq]
def isPrE (n : Int) : Bool := (divs n [2, 3, 5, 7]).getD (([2, 3, 5, 7] : List Int).all (isPbE n))
theorem isPrE_eq (n : Int) : isPrE n = isPr n := by
  unfold isPrE isPr
  rw [show isPbE n = isPb n from funext (isPbE_eq n)]
end
/-! ### ledgers -/
def plan (p n k : Int) : D := .obj 0 [.int p, .int n, .int k]
structure Sc (p n k : Int) : Prop where
  p0 : 3 < p
  p1 : p < 2 ^ 30
  po : p % 2 = 1
  n0 : 2 ≤ n
  n1 : n ≤ 24
  k0 : 1 ≤ k
  k1 : k ≤ 24
  pn : n * n < p
def entD (e : Int × Int × Int) : D := .tup [.tup [.int e.1, .int e.2.1], .int e.2.2]
section
variable {G : Gx} {S : Sto} {p n k : Int}
theorem accounts_eq : m_Scheme_accounts G [plan p n k] S = .ok (.int n) S := by
  refine eq_wp ?_
  rw [m_Scheme_accounts, fnR_eq]
  show wp (ret S (c_Scheme_accounts G [some (.obj 0 [.int p, .int n, .int k])] S)) _
  unfold c_Scheme_accounts
  push_cast []
  all_goals first | exact ⟨rfl, trivial⟩ | exact ⟨trivial, trivial⟩ | exact trivial | exact ⟨rfl, rfl⟩
theorem clsOf_plan : clsOf (plan p n k) S = some 0 := rfl
end
end K52
set_option Elab.async false
set_option linter.all false
set_option maxRecDepth 100000
set_option maxHeartbeats 4000000
namespace K52
open PySem PySem.Spec PyProof.Rows L2 DL
/-! ### the numbers of the script -/
section
variable {G : Gx} {S : Sto}
theorem source_wp {ns : List Int} (hn : ns.length ≤ 63) : wp (mp__law_source G [.scr (iD ns)] []) fun d S => d = .ref 1 ∧ DkE 0 S := by
  rw [mp__law_source, ev_a1, m__law_source, fnR_eq]
  show wp (ret [] (c__law_source G [some (.scr (iD ns)), none, none, none] [])) _
  unfold c__law_source
  have hcut : p_sl false (.scr (iD ns)) none (some 63) ([] : Sto) = .ok (.lst (iD ns)) [] := by
    show p_lst false (DL.cutD (iD ns) none (some 63)) [] = _
    have : DL.cutD (iD ns) none (some 63) = iD ns := cutD_whole (decide_eq_true ⟨HT.sIx_none _ _, by
      rw [show (63 : Int) = ((63 : Nat) : Int) from rfl, HT.sIx_nat, Nat.min_eq_right (by rw [List.length_map]; omega)]⟩)
    rw [this, lst_f (by rw [List.length_map]; omega)]
  push_cast [hcut]
  refine wp_for ns D.int (fun pre ρ S => ∃ (sd : Int) (o : Option D), ρ = [some (.scr (iD ns)), some (.lst (iD ns)), some (.int sd), o] ∧ S = [] ∧ 0 ≤ sd ∧ sd < 2 ^ 32) (it_eq (x := .lst (iD ns)) (by push_cast []) rfl) (fun _ _ _ _ => ok_one rfl) ⟨_, none, rfl, rfl, by decide, by decide⟩ ?_ ?_
  · rintro pre x post ρ S hl ⟨sd, o, rfl, rfl, h0, h1⟩
    push_cast []
    exact ⟨_, _, rfl, trivial, Int.emod_nonneg _ (by decide), Int.lt_of_lt_of_le (Int.emod_lt_of_pos _ (by decide)) (by decide)⟩
  · rintro ρ S ⟨sd, o, rfl, rfl, h0, h1⟩
    have hrev : ∀ ρ : DL.Env, c_rev true (c_var 1) (some (.scr (iD ns)) :: some (.lst (iD ns)) :: ρ) [] = .ok (.ref 0) [some (.lst (iD ns.reverse))] := fun ρ => by
      show p_lst true (iD ns).reverse [] = _
      rw [lst_t (by rw [List.length_reverse, List.length_map]; omega), iD, iD, List.map_reverse]
      rfl
    push_cast [hrev, lst_t (S := [some (.lst (iD ns.reverse))]) (show [D.ref 0, .int sd, .int 0].length ≤ 1000000 by simp)]
    unfold fin
    rw [if_neg (by simp), if_neg (fun h => by simp [refsLt] at h)]
    exact ⟨rfl, [], ns.reverse, sd, 0, rfl, by simp; omega, h0, h1, by omega, by omega⟩
theorem pow18 : p_pow (.int 10) (.int 18) S = .ok (.int 1000000000000000000) S := by
  rw [pow_eq (by decide) (by decide) (by decide)]
  rfl
theorem dk_sm {its its' : List Int} {seed cnt cnt' : Int} {T : Sto} : Sm (dk its seed cnt T) (dk its' seed cnt' T) := ⟨rfl, fun i h => by
  obtain ⟨m, rfl⟩ : ∃ m, i = m + 2 := ⟨i - 2, by omega⟩
  rfl⟩
theorem random_wp {j : Nat} {b : Int} (h : DkE j S) (hn : j < 2 ^ 20) (hb : 0 < b) (hb2 : b < 2 ^ 40) : wp (mp__law_random G [.ref 1, .int b] S) fun d S' => ∃ v : Int, d = .int v ∧ 0 ≤ v ∧ v < b ∧ DkE (j + 1) S' ∧ Sm S S' := by
  obtain ⟨T, its, seed, cnt, rfl, hi, s0, s1, c0, c1⟩ := h
  rw [mp__law_random, ev_a2, m__law_random, fnR_eq]
  show wp (ret (dk its seed cnt T) (c__law_random G [some (.ref 1), some (.int b), none, none] (dk its seed cnt T))) _
  unfold c__law_random
  generalize hc : cnt + 1 = c
  have hcc : 0 ≤ 65537 * c ∧ 65537 * c < 2 ^ 40 := by omega
  have hcc2 : 0 ≤ 65537 * c * c ∧ 65537 * c * c ≤ 2 ^ 40 * 2 ^ 22 := ⟨Int.mul_nonneg (by omega) (by omega), Int.mul_le_mul (by omega) (by omega) (by omega) (by omega)⟩
  have tail : ∀ (x : Int) (o3 : Option D) (its' : List Int), its'.length ≤ 63 → wp (((c_seq (c_set 3 (c_op p_mod (c_op (p_mul false) (c_op (p_add false) (c_op (p_add false) (c_op p_mod (c_var 2) (c_d (.int 2147483629))) (c_op (p_mul false) (c_op (p_mul false) (c_d (.int 65537)) (c_op p_ix (c_var 0) (c_d (.int 2)))) (c_op p_ix (c_var 0) (c_d (.int 2))))) (c_d (.int 41))) (c_d (.int 40692))) (c_d (.int 2147483647))))
      (c_seq (c_set 3 (c_op p_mod (c_op (p_add false) (c_op (p_add false) (c_op (p_mul false) (c_var 3) (c_var 3)) (c_op (p_mul false) (c_d (.int 69621)) (c_op p_ix (c_var 0) (c_d (.int 2))))) (c_d (.int 7))) (c_d (.int 2147483587))))
      (c_ret (c_op p_mod (c_op p_fdiv (c_op p_mod (c_op (p_mul false) (c_var 3) (c_d (.int 48271))) (c_d (.int 2147483563))) (c_d (.int 64))) (c_var 1)))))) [some (.ref 1), some (.int b), some (.int x), o3] (dk its' seed c T)) (retQ (dk its seed cnt T) fun d S' => ∃ v : Int, d = .int v ∧ 0 ≤ v ∧ v < b ∧ DkE (j + 1) S' ∧ Sm (dk its seed cnt T) S') := by
    intro x o3 its' hi'
    push_cast [dk_ix2]
    refine wp_fin_len rfl ⟨_, rfl, Int.emod_nonneg _ (by omega), Int.emod_lt_of_pos _ hb, ⟨T, its', seed, c, rfl, hi', s0, s1, by omega, by omega⟩, dk_sm⟩
  rcases List.eq_nil_or_concat its with rfl | ⟨l, x, e⟩
  · push_cast [dk_ix2, hc, dk_set2, dk_ix1, dk_ix0, p_lst_f, dk_ne, List.isEmpty_nil]
    have := tail seed none [] (by simp)
    push_cast [dk_ix2] at this
    exact this
  · rw [List.concat_eq_append] at e
    subst e
    have hl : l.length ≤ 62 := by simp at hi; omega
    have hne : (l ++ [x]).isEmpty = false := by simp
    by_cases hx : 1000000000000000000 ≤ x
    · push_cast [dk_ix2, hc, dk_set2, dk_ix1, dk_ix0, p_lst_f, dk_ne, hne, dk_isL, dk_pop, pow18, hx, dk_app (its := l) (T := T) (seed := seed) (cnt := c) (x := x / b) (by omega)]
      refine wp_fin_len rfl ⟨_, rfl, Int.emod_nonneg _ (by omega), Int.emod_lt_of_pos _ hb, ⟨T, l ++ [x / b], seed, c, rfl, by simp; omega, s0, s1, by omega, by omega⟩, dk_sm⟩
    · push_cast [dk_ix2, hc, dk_set2, dk_ix1, dk_ix0, p_lst_f, dk_ne, hne, dk_isL, dk_pop, pow18, hx]
      have := tail (x + seed) none l (by omega)
      push_cast [dk_ix2] at this
      exact this
theorem choice_wp {α : Type} {j : Nat} {l : List α} {f : α → D} (h : DkE j S) (hn : j < 2 ^ 20) (h0 : l ≠ []) (h1 : l.length ≤ 1000000) : wp (mp__law_choice G [.ref 1, .lst (l.map f)] S) fun d S' => ∃ x, d = f x ∧ x ∈ l ∧ DkE (j + 1) S' ∧ Sm S S' := by
  rw [mp__law_choice, ev_a2, m__law_choice, fnR_eq]
  show wp (ret S (c__law_choice G [some (.ref 1), some (.lst (l.map f))] S)) _
  unfold c__law_choice
  have hp := List.length_pos_iff.mpr h0
  push_cast []
  refine wp_of (random_wp h hn (by rw [List.length_map]; omega) (by rw [List.length_map]; omega)) ?_
  rintro _ S' ⟨v, rfl, v0, v1, h', hs⟩
  rw [List.length_map] at v1
  have hv : v.toNat < l.length := by omega
  push_cast [ix_lst (S := S') (ds := l.map f) v0 (by rw [List.getElem?_map, List.getElem?_eq_getElem hv]; rfl)]
  exact wp_fin_len hs.1 ⟨l[v.toNat], rfl, List.getElem_mem _, h', hs⟩
end
/-! ### what the laws of books share -/
def prs12 : List Int := [5, 11, 17, 29, 37, 53, 577, 1009, 65537, 999999937]
theorem prs12_facts : ∀ p ∈ prs12, 3 < p ∧ p < 2 ^ 30 ∧ p % 2 = 1 ∧ p ≤ 1000000000 := by decide +kernel
theorem prs12_ev : prs12.all isPrE = true := by decide +kernel
theorem prs12_ok {p : Int} (h : p ∈ prs12) : isPr p = true := by
  rw [← isPrE_eq]
  exact List.all_eq_true.mp prs12_ev p h
theorem sc_of {p n k : Int} (hp : p ∈ prs12) (hn : n * n < p) (n0 : 2 ≤ n) (n1 : n ≤ 24) (k0 : 1 ≤ k) (k1 : k ≤ 24) : Sc p n k := by
  obtain ⟨h1, h2, h3, h4⟩ := prs12_facts p hp
  exact ⟨h1, h2, h3, n0, n1, k0, k1, hn⟩
def szD (p n k : Int) : D := .tup [.int p, .int n, .int k]
section
variable {G : Gx} {S : Sto} {p n k : Int}
theorem plan_make (w : Sc p n k) (hp : p ∈ prs12) : p_make false 0 (mp_Scheme__init_ G) [.int p, .int n, .int k] S = .ok (plan p n k) S := by
  obtain ⟨h1, h2, h3, h4⟩ := prs12_facts p hp
  exact scheme_eq (by omega) h4 (prs12_ok hp) w.n0 w.n1 w.pn w.k0 w.k1
def kv12 : List (Key × D) := [(.inl 2, .int 5), (.inl 3, .int 11), (.inl 4, .int 17), (.inl 5, .int 29), (.inl 6, .int 37), (.inl 7, .int 53), (.inl 24, .int 577)]
theorem disp12 : p_dispK false [(.int 2, .int 5), (.int 3, .int 11), (.int 4, .int 17), (.int 5, .int 29), (.int 6, .int 37), (.int 7, .int 53), (.int 24, .int 577)] S = .ok (.dK kv12) S := rfl
theorem least12 {c : Int} (h : c ∈ ([2, 2, 3, 4, 4, 5, 6, 7, 24] : List Int)) : ∃ m, (∀ S, p_ix (.dK kv12) (.int c) S = .ok (.int m) S) ∧ c * c < m ∧ m ∈ prs12 ∧ 2 ≤ c ∧ c ≤ 24 ∧ m ≤ 577 := by
  simp only [List.mem_cons, List.not_mem_nil, or_false] at h
  rcases h with rfl | rfl | rfl | rfl | rfl | rfl | rfl | rfl | rfl <;> exact ⟨_, fun _ => rfl, by decide, by decide, by decide, by decide, by decide⟩
theorem sizes_wp {j : Nat} (h : DkE j S) (hn : j < 2 ^ 19) : wp (mp__law_sizes G [.ref 1] S) fun d S' => ∃ p n k : Int, d = szD p n k ∧ p ∈ prs12 ∧ Sc p n k ∧ DkE (j + 3) S' ∧ Sm S S' := by
  rw [mp__law_sizes, ev_a1, m__law_sizes, fnR_eq]
  show wp (ret S (c__law_sizes G [some (.ref 1), none, none, none] S)) _
  unfold c__law_sizes
  push_cast []
  refine wp_of (choice_wp (l := [2, 2, 3, 4, 4, 5, 6, 7, 24]) (f := D.int) h (by omega) (by simp) (by simp)) ?_
  rintro _ S1 ⟨c, rfl, hc, h1, s1⟩
  obtain ⟨m, hm, hcm, hmp, c0, c1, hm2⟩ := least12 hc
  push_cast [disp12, hm]
  refine wp_of (choice_wp (l := [m, m, 1009, 65537, 999999937]) (f := D.int) h1 (by omega) (by simp) (by simp)) ?_
  rintro _ S2 ⟨q, rfl, hq, h2, s2⟩
  push_cast []
  refine wp_of (choice_wp (l := [1, 2, 3, 4, 6, 24]) (f := D.int) h2 (by omega) (by simp) (by simp)) ?_
  rintro _ S3 ⟨k, rfl, hk, h3, s3⟩
  push_cast []
  have hq2 : q ∈ prs12 ∧ c * c < q := by
    simp only [List.mem_cons, List.not_mem_nil, or_false] at hq
    rcases hq with rfl | rfl | rfl | rfl | rfl
    · exact ⟨hmp, hcm⟩
    · exact ⟨hmp, hcm⟩
    · exact ⟨by decide, by omega⟩
    · exact ⟨by decide, by omega⟩
    · exact ⟨by decide, by omega⟩
  have hk2 : 1 ≤ k ∧ k ≤ 24 := by
    simp only [List.mem_cons, List.not_mem_nil, or_false] at hk
    omega
  have ss := (s1.trans s2).trans s3
  exact wp_fin_len ss.1 ⟨q, c, k, rfl, hq2.1, sc_of hq2.1 hq2.2 c0 c1 hk2.1 hk2.2, h3.mono (by omega), ss⟩
end
end K52
set_option Elab.async false
set_option linter.all false
set_option maxRecDepth 100000
set_option maxHeartbeats 4000000
namespace K52
open PySem PySem.Spec PyProof.Rows L2 DL
/-! ### a word, a line, a text: as the program reads them -/
section
variable {G : Gx} {S : Sto} {p n k : Int}
theorem is_integer_eq {x : Int} : m_is_integer G [.int x] S = .ok (.bl true) S := by
  refine eq_wp ?_
  rw [m_is_integer, fnR_eq]
  show wp (ret S (c_is_integer G [some (.int x)] S)) _
  unfold c_is_integer
  push_cast []
  all_goals first | exact ⟨rfl, trivial⟩ | exact ⟨trivial, trivial⟩ | exact trivial | exact ⟨rfl, rfl⟩
theorem largest_eq (w : Sc p n k) : m_Scheme_largest_amount G [plan p n k] S = .ok (.int ((p - 1) / 2)) S := by
  refine eq_wp ?_
  rw [m_Scheme_largest_amount, fnR_eq]
  show wp (ret S (c_Scheme_largest_amount G [some (.obj 0 [.int p, .int n, .int k])] S)) _
  unfold c_Scheme_largest_amount
  push_cast []
  all_goals first | exact ⟨rfl, trivial⟩ | exact ⟨trivial, trivial⟩ | exact trivial | exact ⟨rfl, rfl⟩
theorem abs_eq {x : Int} : p_abs [.int x] S = .ok (.int (if x < 0 then -x else x)) S := rfl
theorem is_reduced_eq (w : Sc p n k) {x : Int} : m_is_reduced G [plan p n k, .int x] S = .ok (.bl (decide (2 * x.natAbs < p))) S := by
  refine eq_wp ?_
  have w0 := w.po
  have w1 := w.p0
  rw [m_is_reduced, fnR_eq]
  show wp (ret S (c_is_reduced G [some (plan p n k), some (.int x)] S)) _
  unfold c_is_reduced
  push_cast [mp_is_integer, is_integer_eq (G := G) (S := S) (x := x), abs_eq, clsOf_plan, largest_eq (G := G) (S := S) w]
  refine ⟨?_, trivial⟩
  congr 1
  refine decide_eq_decide.mpr ?_
  split <;> omega
theorem dig_all {l : List Nat} {ρ : DL.Env} (h : l.length ≤ 1000000) : c_lc (c_itS (c_var 1)) (g_name 2) c_yes (c_op (p_inS false) (c_var 2) (c_d k_DIGITS)) [2] (some x :: some (.str (mk l)) :: o :: ρ) S = .ok (.lst (l.map fun c => .bl (isDig c))) S := by
  refine lc_eqM l signD (fun c => .bl (isDig c)) (ci := c_itS (c_var 1)) (S1 := S) (src := []) ?_ h ok_nil fun c _ => ?_
  · rfl
  · have e : p_inS false (signD c) k_DIGITS S = .ok (.bl (isDig c)) S := by
      show (Res.ok (D.bl (if false = true then _ else _)) S) = _
      rw [if_neg Bool.false_ne_true, mem_dig]
    push_cast [e]
theorem integer_in_eq {w : PySem.Str} (h : w.length ≤ 1000000) : m_integer_in G [.str w] S = .ok (optD (wordI 10 (tl w))) S := by
  refine eq_wp ?_
  rw [m_integer_in, fnR_eq]
  show wp (ret S (c_integer_in G [some (.str w), none, none] S)) _
  unfold c_integer_in
  have h1 : p_sl false (.str w) none (some 1) S = .ok (.str (mk ((tl w).take 1))) S := sl_to (k := 1) h S
  have h2 : p_sl false (.str w) (some 1) none S = .ok (.str (mk ((tl w).drop 1))) S := sl_from (k := 1) h S
  have key : wp (((c_seq (c_ifS (c_or (c_not (c_test (c_chain p_le p_le (c_d (.int 1)) (c_cb p_len (c_cons (c_var 1) c_nil)) (c_d k_MOST_DIGITS)))) (c_not (c_test (c_cb p_all (c_cons (c_lc (c_itS (c_var 1)) (g_name 2) c_yes (c_op (p_inS false) (c_var 2) (c_d k_DIGITS)) [2]) c_nil))))) (c_ret (c_d .non)) c_nx)
  (c_ret (c_if (c_or (c_test (c_op (p_eqS true) (c_op p_ix (c_var 1) (c_d (.int 0))) (c_d (.str "0")))) (c_test (c_op (p_eqS false) (c_var 0) (c_d (.str "0"))))) (c_cb p_int (c_cons (c_var 0) c_nil)) (c_d .non)))) [some (.str w), some (.str (mk (figs (tl w)))), none] S)) (retQ S fun a' S' => a' = optD (wordI 10 (tl w)) ∧ S' = S) := by
    have hl : (mk (figs (tl w))).length ≤ 1000000 := by
      rw [tl_len, tl_mk]
      have := tl_len w
      unfold figs
      split
      · rw [List.length_tail]; omega
      · omega
    have hlen := lenS hl S
    have hll : ((mk (figs (tl w))).length : Int) = ((figs (tl w)).length : Int) := by rw [tl_len, tl_mk]
    rw [hll] at hlen
    have hl2 : (figs (tl w)).length ≤ 1000000 := by rw [tl_len, tl_mk] at hl; exact hl
    have hd := dig_all (S := S) (x := .str w) (o := none) (ρ := []) (l := figs (tl w)) hl2
    have hk : k_MOST_DIGITS = .int 10 := rfl
    have hW := wordI_eq 10 (tl w)
    generalize wordI 10 (tl w) = W at hW ⊢
    by_cases hN : wordN 10 (figs (tl w)) = true
    · have hint := int_word (m := 10) (by decide) hN S
      unfold wordN at hN
      simp only [Bool.and_eq_true, decide_eq_true_eq, Bool.not_eq_true', List.isEmpty_eq_false_iff] at hN
      obtain ⟨⟨n1, n2⟩, n3⟩ := hN
      have hN : wordN 10 (figs (tl w)) = true := by
        unfold wordN
        simp only [Bool.and_eq_true, decide_eq_true_eq, Bool.not_eq_true', List.isEmpty_eq_false_iff]
        exact ⟨⟨n1, n2⟩, n3⟩
      have p1 := List.length_pos_iff.mpr n2
      have hal : p_all [.lst ((figs (tl w)).map fun c => D.bl (isDig c))] S = .ok (.bl true) S := by rw [all_bls, n3]
      obtain ⟨c, r, hcr⟩ := List.exists_cons_of_ne_nil n2
      have hix := ixS0 (w := mk (figs (tl w))) (c := c) (r := r) (by rw [tl_mk]; exact hcr) hl S
      have ha : (1 : Int) ≤ ((figs (tl w)).length : Int) := by omega
      have hb : ((figs (tl w)).length : Int) ≤ 10 := by omega
      push_cast [hlen, hk, ha, hb, hd, hal, hix, eqS_eq]
      have ec : (mk [c] = ("0" : PySem.Str)) ↔ c = 48 := by
        rw [txt0, mk_inj]
        exact ⟨fun z => by injection z, fun z => by rw [z]⟩
      have ew : (w = ("0" : PySem.Str)) ↔ tl w = [48] := by
        rw [txt0]
        exact ⟨fun z => by rw [z], fun z => by rw [← mk_tl w, z]⟩
      by_cases h48 : c = 48
      · have e1 : decide (mk [c] = ("0" : PySem.Str)) = true := decide_eq_true (ec.mpr h48)
        by_cases h0 : tl w = [48]
        · have e2 : decide (w = ("0" : PySem.Str)) = true := decide_eq_true (ew.mpr h0)
          rw [if_pos ⟨hN, .inr h0⟩] at hW
          subst hW
          push_cast [e1, e2, hint]
          all_goals first | exact ⟨rfl, trivial⟩ | exact ⟨trivial, trivial⟩ | exact trivial | exact ⟨rfl, rfl⟩
        · have e2 : decide (w = ("0" : PySem.Str)) = false := decide_eq_false fun z => h0 (ew.mp z)
          rw [if_neg (fun z => by
            rcases z.2 with z | z
            · rw [hcr, h48] at z; exact z rfl
            · exact h0 z)] at hW
          subst hW
          push_cast [e1, e2]
          all_goals first | exact ⟨rfl, trivial⟩ | exact ⟨trivial, trivial⟩ | exact trivial | exact ⟨rfl, rfl⟩
      · have e1 : decide (mk [c] = ("0" : PySem.Str)) = false := decide_eq_false fun z => h48 (ec.mp z)
        rw [if_pos ⟨hN, .inl (by rw [hcr]; simpa using h48)⟩] at hW
        subst hW
        push_cast [e1, hint]
        all_goals first | exact ⟨rfl, trivial⟩ | exact ⟨trivial, trivial⟩ | exact trivial | exact ⟨rfl, rfl⟩
    · rw [if_neg fun z => hN z.1] at hW
      subst hW
      unfold wordN at hN
      simp only [Bool.and_eq_true, decide_eq_true_eq, Bool.not_eq_true', List.isEmpty_eq_false_iff] at hN
      by_cases ha : (1 : Int) ≤ ((figs (tl w)).length : Int)
      · by_cases hb : ((figs (tl w)).length : Int) ≤ 10
        · have n3 : (figs (tl w)).all isDig = false := by
            cases q : (figs (tl w)).all isDig with
            | false => rfl
            | true => exact absurd ⟨⟨by omega, fun z => by rw [z] at ha; simp at ha⟩, q⟩ hN
          have hal : p_all [.lst ((figs (tl w)).map fun c => D.bl (isDig c))] S = .ok (.bl false) S := by rw [all_bls, n3]
          push_cast [hlen, hk, ha, hb, hd, hal]
          all_goals first | exact ⟨rfl, trivial⟩ | exact ⟨trivial, trivial⟩ | exact trivial | exact ⟨rfl, rfl⟩
        · push_cast [hlen, hk, ha, hb]
          all_goals first | exact ⟨rfl, trivial⟩ | exact ⟨trivial, trivial⟩ | exact trivial | exact ⟨rfl, rfl⟩
      · push_cast [hlen, hk, ha]
        all_goals first | exact ⟨rfl, trivial⟩ | exact ⟨trivial, trivial⟩ | exact trivial | exact ⟨rfl, rfl⟩
  by_cases hn : isNeg (tl w) = true
  · have q1 : p_eqS false (.str (mk ((tl w).take 1))) (.str "-") S = .ok (.bl true) S := by
      rw [eqS_eq, decide_eq_true (neg_iff.mpr hn)]
      rfl
    rw [figs_drop hn] at h2
    push_cast [h1, h2, q1]
    push_cast [] at key
    exact key
  · have q1 : p_eqS false (.str (mk ((tl w).take 1))) (.str "-") S = .ok (.bl false) S := by
      rw [eqS_eq, decide_eq_false fun z => hn (neg_iff.mp z)]
      rfl
    have e2 : mk (figs (tl w)) = w := by unfold figs; rw [if_neg hn, mk_tl]
    rw [e2] at key
    push_cast [h1, q1]
    push_cast [] at key
    exact key
end
end K52
set_option Elab.async false
set_option linter.all false
set_option maxRecDepth 100000
set_option maxHeartbeats 4000000
namespace K52
open PySem PySem.Spec PyProof.Rows L2 DL
/-! ### a line, as the program and the law read it -/
section
variable {G : Gx} {S : Sto} {p n k : Int}
theorem law_ones {l : List Nat} {ρ : DL.Env} (h : l.length ≤ 1000000) : c_lc (c_itS (c_var 1)) (g_name 2) (c_test (c_op (p_inS true) (c_var 2) (c_d (.str "0123456789")))) (c_d (.int 1)) [2] (some x :: some (.str (mk l)) :: o :: ρ) S = .ok (.lst ((l.filter fun c => !isDig c).map fun _ => .int 1)) S := by
  have := lc_eqF (ρ := some x :: some (.str (mk l)) :: o :: ρ) (g := g_name 2) (t := c_test (c_op (p_inS true) (c_var 2) (c_d (.str "0123456789")))) (a := c_d (.int 1)) (own := [2]) l signD (fun c => if (!isDig c) = true then some (.int 1) else none) (ci := c_itS (c_var 1)) (S1 := S) (src := []) rfl h ok_nil fun c _ => by
    have e : p_inS true (signD c) (.str "0123456789") S = .ok (.bl (!isDig c)) S := by
      show (Res.ok (D.bl (if true = true then _ else _)) S) = _
      rw [if_pos rfl, mem_dig]
    cases hd : isDig c with
    | true =>
      rw [hd] at e
      push_cast [e]
    | false =>
      rw [hd] at e
      push_cast [e]
  rw [this, filterMap_if]
theorem ne_ones {α : Type} {l : List α} : p_eq true (.lst (l.map fun _ => D.int 1)) (.lst []) S = .ok (.bl (!l.isEmpty)) S := by
  have h1 : pyOf S (.lst (l.map fun _ => D.int 1)) = some (.list (l.map fun _ => PyData.int 1)) := by
    rw [pyOf, pyL_map (g := fun _ => PyData.int 1) (fun _ _ => rfl)]
    rfl
  have hF : Fx 1 (l.length * (100 + 2) + 3) (.list (l.map fun _ => PyData.int 1)) := by
    have := Fx.list (d := 0) (w := 100) (ps := l.map fun _ => PyData.int 1) fun q hq => by
      obtain ⟨_, _, rfl⟩ := List.mem_map.mp hq
      exact (Fx.int (i := 1) (k := 1) (by decide) (by decide) (by decide)).mono (Nat.le_refl _) (by decide)
    rw [List.length_map] at this
    exact this.mono (Nat.le_refl _) (by omega)
  have hs := hF.shaped (by decide)
  have hs2 : SeqAt.shaped (.list []) = true := by decide +kernel
  unfold p_eq
  rw [h1]
  show (if _ then _ else _) = _
  rw [if_pos ⟨hs, hs2⟩]
  cases l with
  | nil => rfl
  | cons a l => rfl
theorem law_integer_eq {w : PySem.Str} (h : w.length ≤ 1000000) : m__law_integer G [.str w] S = .ok (optD (wordI 30 (tl w))) S := by
  refine eq_wp ?_
  rw [m__law_integer, fnR_eq]
  show wp (ret S (c__law_integer G [some (.str w), none, none] S)) _
  unfold c__law_integer
  have h1 : p_sl false (.str w) none (some 1) S = .ok (.str (mk ((tl w).take 1))) S := sl_to (k := 1) h S
  have h2 : p_sl false (.str w) (some (if isNeg (tl w) = true then 1 else 0)) none S = .ok (.str (mk (figs (tl w)))) S := by
    cases hn : isNeg (tl w) with
    | true =>
      have := sl_from (b := false) (k := 1) h S
      rw [figs_drop hn] at this
      exact this
    | false =>
      have := sl_from (b := false) (k := 0) h S
      have e2 : figs (tl w) = tl w := by unfold figs; rw [hn]; rfl
      rw [e2]
      exact this
  have q1 : p_eqS false (.str (mk ((tl w).take 1))) (.str "-") S = .ok (.bl (isNeg (tl w))) S := by
    rw [eqS_eq]
    cases hn : isNeg (tl w) with
    | true => rw [decide_eq_true (neg_iff.mpr hn)]; rfl
    | false => rw [decide_eq_false fun z => by rw [neg_iff.mp z] at hn; cases hn]; rfl
  have q2 : p_int [.bl (isNeg (tl w))] S = .ok (.int (if isNeg (tl w) = true then 1 else 0)) S := rfl
  have hl : (mk (figs (tl w))).length ≤ 1000000 := by
    rw [tl_len, tl_mk]
    have := tl_len w
    unfold figs
    split
    · rw [List.length_tail]; omega
    · omega
  have hlen := lenS hl S
  have hll : ((mk (figs (tl w))).length : Int) = ((figs (tl w)).length : Int) := by rw [tl_len, tl_mk]
  rw [hll] at hlen
  have hl2 : (figs (tl w)).length ≤ 1000000 := by rw [tl_len, tl_mk] at hl; exact hl
  have hd := law_ones (S := S) (x := .str w) (o := none) (ρ := []) (l := figs (tl w)) hl2
  have hW := wordI_eq 30 (tl w)
  generalize wordI 30 (tl w) = W at hW ⊢
  have q3 : p_eqS false (.str (mk (figs (tl w)))) (.str "") S = .ok (.bl (figs (tl w)).isEmpty) S := by
    rw [eqS_eq]
    have e : (mk (figs (tl w)) = ("" : PySem.Str)) ↔ figs (tl w) = [] := by rw [txtE, mk_inj]
    cases hf : figs (tl w) with
    | nil => rw [hf] at e; rw [decide_eq_true (e.mpr rfl)]; rfl
    | cons c r => rw [hf] at e; rw [decide_eq_false fun z => by cases e.mp z]; rfl
  by_cases hN : wordN 30 (figs (tl w)) = true
  · have hint := int_word (m := 30) (by decide) hN S
    have hback := str_back hN
    have hval : (valI (tl w)).natAbs < 10 ^ 30 := by
      have e : (valI (tl w)).natAbs = PySem.NumText.digitsVal (figs (tl w)) := by unfold valI; split <;> omega
      rw [e]
      unfold wordN at hN
      simp only [Bool.and_eq_true, decide_eq_true_eq] at hN
      exact Nat.lt_of_lt_of_le (digitsVal_lt _ (allDig.mp hN.2)) (Nat.pow_le_pow_right (by decide) hN.1.1)
    have hstr := str_int (a := valI (tl w)) (by omega) S
    have hN' := hN
    unfold wordN at hN
    simp only [Bool.and_eq_true, decide_eq_true_eq, Bool.not_eq_true', List.isEmpty_eq_false_iff] at hN
    obtain ⟨⟨n1, n2⟩, n3⟩ := hN
    have n4 : (figs (tl w)).isEmpty = false := List.isEmpty_eq_false_iff.mpr n2
    have n5 : ((figs (tl w)).filter fun c => !isDig c) = [] := by
      rw [List.filter_eq_nil_iff]
      intro c hc
      rw [List.all_eq_true.mp n3 c hc]
      decide
    have q4 : p_eq true (.lst (((figs (tl w)).filter fun c => !isDig c).map fun _ => D.int 1)) (.lst []) S = .ok (.bl false) S := by rw [ne_ones, n5]; rfl
    have hb : ¬ (30 : Int) < ((figs (tl w)).length : Int) := by omega
    rw [n4] at q3
    by_cases hc : (figs (tl w)).head? ≠ some 48 ∨ tl w = [48]
    · rw [if_pos ⟨hN', hc⟩] at hW
      subst hW
      have q5 : p_eqS false (.str (txI (valI (tl w)))) (.str w) S = .ok (.bl true) S := by rw [eqS_eq, decide_eq_true (hback.mpr hc)]; rfl
      push_cast [h1, q1, q2, h2, q3, hlen, hb, hd, q4, hint, hstr, q5]
      all_goals first | exact ⟨rfl, trivial⟩ | exact ⟨trivial, trivial⟩ | exact trivial | exact ⟨rfl, rfl⟩
    · rw [if_neg fun z => hc z.2] at hW
      subst hW
      have q5 : p_eqS false (.str (txI (valI (tl w)))) (.str w) S = .ok (.bl false) S := by rw [eqS_eq, decide_eq_false fun z => hc (hback.mp z)]; rfl
      push_cast [h1, q1, q2, h2, q3, hlen, hb, hd, q4, hint, hstr, q5]
      all_goals first | exact ⟨rfl, trivial⟩ | exact ⟨trivial, trivial⟩ | exact trivial | exact ⟨rfl, rfl⟩
  · rw [if_neg fun z => hN z.1] at hW
    subst hW
    unfold wordN at hN
    simp only [Bool.and_eq_true, decide_eq_true_eq, Bool.not_eq_true', List.isEmpty_eq_false_iff] at hN
    by_cases n2 : figs (tl w) = []
    · rw [n2] at q3
      have q3 : p_eqS false (.str (mk (figs (tl w)))) (.str "") S = .ok (.bl true) S := by rw [n2]; exact q3
      push_cast [h1, q1, q2, h2, q3]
      all_goals first | exact ⟨rfl, trivial⟩ | exact ⟨trivial, trivial⟩ | exact trivial | exact ⟨rfl, rfl⟩
    · rw [List.isEmpty_eq_false_iff.mpr n2] at q3
      by_cases hb : (30 : Int) < ((figs (tl w)).length : Int)
      · push_cast [h1, q1, q2, h2, q3, hlen, hb]
        all_goals first | exact ⟨rfl, trivial⟩ | exact ⟨trivial, trivial⟩ | exact trivial | exact ⟨rfl, rfl⟩
      · have n3 : ((figs (tl w)).filter fun c => !isDig c).isEmpty = false := by
          cases q : ((figs (tl w)).filter fun c => !isDig c) with
          | cons _ _ => rfl
          | nil =>
            refine absurd ⟨⟨by omega, n2⟩, ?_⟩ hN
            rw [List.all_eq_true]
            intro c hc
            have := List.filter_eq_nil_iff.mp q c hc
            cases h : isDig c with
            | true => rfl
            | false => rw [h] at this; exact absurd rfl this
        have q4 : p_eq true (.lst (((figs (tl w)).filter fun c => !isDig c).map fun _ => D.int 1)) (.lst []) S = .ok (.bl true) S := by rw [ne_ones, n3]; rfl
        push_cast [h1, q1, q2, h2, q3, hlen, hb, hd, q4]
        all_goals first | exact ⟨rfl, trivial⟩ | exact ⟨trivial, trivial⟩ | exact trivial | exact ⟨rfl, rfl⟩
end
end K52
set_option Elab.async false
set_option linter.all false
set_option maxRecDepth 100000
set_option maxHeartbeats 4000000
namespace K52
open PySem PySem.Spec PyProof.Rows L2 DL
/-! ### entries -/
def entF (m : Nat) (n p : Int) (line : PySem.Str) : Option (Int × Int × Int) :=
  match (Txt.split line " ").map fun w => wordI m (tl w) with
  | [some a, some b, some c] => if 0 ≤ a ∧ a < b ∧ b < n ∧ c ≠ 0 ∧ 2 * (c.natAbs : Int) < p then some (a, b, c) else none
  | _ => none
theorem map3 {α β : Type} {f : α → β} : ∀ {l : List α} {x y z : β}, l.map f = [x, y, z] → ∃ a b c, l = [a, b, c] ∧ f a = x ∧ f b = y ∧ f c = z
  | [a, b, c], _, _, _, h => by simp at h; exact ⟨a, b, c, rfl, h.1, h.2.1, h.2.2⟩
  | [], _, _, _, h => by simp at h
  | [_], _, _, _, h => by simp at h
  | [_, _], _, _, _, h => by simp at h
  | _ :: _ :: _ :: _ :: _, _, _, _, h => by simp at h
theorem entF_some {m : Nat} {n p : Int} {line : PySem.Str} {t : Int × Int × Int} (h : entF m n p line = some t) :
    ∃ x y z, Txt.split line " " = [x, y, z] ∧ wordI m (tl x) = some t.1 ∧ wordI m (tl y) = some t.2.1 ∧ wordI m (tl z) = some t.2.2 ∧ 0 ≤ t.1 ∧ t.1 < t.2.1 ∧ t.2.1 < n ∧ t.2.2 ≠ 0 ∧ 2 * (t.2.2.natAbs : Int) < p := by
  unfold entF at h
  split at h
  · rename_i a b c e
    split at h
    · rename_i hc
      cases h
      obtain ⟨x, y, z, e1, e2, e3, e4⟩ := map3 e
      exact ⟨x, y, z, e1, e2, e3, e4, hc⟩
    · cases h
  · cases h
theorem entF_intro {m : Nat} {n p a b c : Int} {line x y z : PySem.Str} (e : Txt.split line " " = [x, y, z]) (e1 : wordI m (tl x) = some a) (e2 : wordI m (tl y) = some b) (e3 : wordI m (tl z) = some c)
    (h : 0 ≤ a ∧ a < b ∧ b < n ∧ c ≠ 0 ∧ 2 * (c.natAbs : Int) < p) : entF m n p line = some (a, b, c) := by
  unfold entF
  rw [e, List.map_cons, List.map_cons, List.map_cons, List.map_nil, e1, e2, e3]
  exact if_pos h
theorem wordI_mono {m m' : Nat} {cs : List Nat} {i : Int} (h0 : 1 ≤ m) (hm : m ≤ m') (h : wordI m cs = some i) : wordI m' cs = some i := by
  rcases wordI_more (cs := cs) h0 hm with e | ⟨e, _⟩
  · rw [e, h]
  · rw [h] at e; cases e
theorem wordI_back {m m' : Nat} {cs : List Nat} {i : Int} (h0 : 1 ≤ m) (hm : m ≤ m') (h : wordI m' cs = some i) (hi : i.natAbs < 10 ^ m) : wordI m cs = some i := by
  rcases wordI_more (cs := cs) h0 hm with e | ⟨_, j, e, hj⟩
  · rw [← e, h]
  · rw [h] at e; cases e; omega
theorem entF_more {n p : Int} {line : PySem.Str} (hn : n ≤ 24) (hp : p < 2 ^ 30) : entF 30 n p line = entF 10 n p line := by
  cases h : entF 10 n p line with
  | some t =>
    obtain ⟨x, y, z, e, e1, e2, e3, hc⟩ := entF_some h
    exact entF_intro e (wordI_mono (by decide) (by decide) e1) (wordI_mono (by decide) (by decide) e2) (wordI_mono (by decide) (by decide) e3) hc
  | none =>
    cases h' : entF 30 n p line with
    | none => rfl
    | some t =>
      obtain ⟨x, y, z, e, e1, e2, e3, hc⟩ := entF_some h'
      have := entF_intro e (wordI_back (m := 10) (by decide) (by decide) e1 (by omega)) (wordI_back (m := 10) (by decide) (by decide) e2 (by omega)) (wordI_back (m := 10) (by decide) (by decide) e3 (by omega)) hc
      rw [h] at this
      cases this
def entO : Option (Int × Int × Int) → D
  | some e => entD e
  | none => .non
/-- what becomes of three words -/
def entL (n p : Int) : List (Option Int) → Option (Int × Int × Int)
  | [some a, some b, some c] => if 0 ≤ a ∧ a < b ∧ b < n ∧ c ≠ 0 ∧ 2 * (c.natAbs : Int) < p then some (a, b, c) else none
  | _ => none
theorem entF_eq {m : Nat} {n p : Int} {line : PySem.Str} : entF m n p line = entL n p ((Txt.split line " ").map fun w => wordI m (tl w)) := by
  unfold entF entL
  rfl
section
variable {G : Gx} {S : Sto} {p n k : Int}
theorem split_le {x y w : PySem.Str} (h : w ∈ Txt.split x y) : w.length ≤ x.length ∧ (Txt.split x y).length ≤ x.length + 2 := by
  refine ⟨?_, PyProof.Rows.split_le x y⟩
  have e := PySem.StrLaws.join_split x y
  have key : ∀ (l : List PySem.Str), w ∈ l → w.length ≤ (PySem.Str.join y l).length := fun l => by
    induction l with
    | nil => intro h; cases h
    | cons a l ih =>
      intro h
      cases l with
      | nil =>
        rcases List.mem_cons.mp h with rfl | h
        · exact Nat.le_refl _
        · cases h
      | cons b l =>
        have e2 : (PySem.Str.join y (a :: b :: l)).length = a.length + y.length + (PySem.Str.join y (b :: l)).length := by
          show (a ++ y ++ PySem.Str.join y (b :: l)).length = _
          rw [PySem.strLen_append, PySem.strLen_append]
        rcases List.mem_cons.mp h with rfl | h
        · omega
        · have := ih h
          omega
  have := key _ h
  rw [e] at this
  exact this
theorem splitSp {x : PySem.Str} (h : x.length ≤ 1000000) (S : Sto) : p_split false (.str x) [.str " "] S = p_lst false ((Txt.split x " ").map D.str) S := by
  show (if _ then _ else _) = _
  rw [if_pos ⟨by decide +kernel, h⟩]
theorem integers_in_eq {ws : List PySem.Str} (hl : ws.length ≤ 1000000) (h : ∀ w ∈ ws, w.length ≤ 1000000) : m_integers_in G [.lst (ws.map D.str)] S = .ok (.tup ((ws.map fun w => wordI 10 (tl w)).map optD)) S := by
  refine eq_wp ?_
  rw [m_integers_in, fnR_eq]
  show wp (ret S (c_integers_in G [some (.lst (ws.map D.str)), none] S)) _
  unfold c_integers_in
  push_cast [lc_eqM (S := S) (ci := c_it (c_var 0)) (g := g_name 1) (t := c_yes) (a := c_cb (mp_integer_in G) (c_cons (c_var 1) c_nil)) (own := [1]) (ρ := [some (.lst (ws.map D.str)), none]) ws D.str (fun w => optD (wordI 10 (tl w))) (it_eq (x := .lst (ws.map D.str)) rfl rfl) hl (ok_one rfl) (fun w hw => by push_cast [mp_integer_in, integer_in_eq (G := G) (S := S) (w := w) (h w hw)])]
  refine ⟨?_, trivial⟩
  rw [List.map_map]
  rfl
theorem entry_in_eq (w : Sc p n k) {line : PySem.Str} (h : line.length ≤ 100000) : m_entry_in G [plan p n k, .str line] S = .ok (entO (entF 10 n p line)) S := by
  refine eq_wp ?_
  rw [m_entry_in, fnR_eq]
  show wp (ret S (c_entry_in G [some (plan p n k), some (.str line), none, none, none, none] S)) _
  unfold c_entry_in
  have hsp := splitSp (x := line) (by omega) S
  have hws : ∀ v ∈ Txt.split line " ", v.length ≤ 1000000 := fun v hv => by have := (split_le hv).1; omega
  have hwl : (Txt.split line " ").length ≤ 1000000 := by have := PyProof.Rows.split_le line " "; omega
  rw [entF_eq]
  rw [lst_f (by rw [List.length_map]; exact hwl)] at hsp
  have hin := integers_in_eq (G := G) (S := S) hwl hws
  have hS : isS (.str line) S = true := rfl
  have hk : k_ENTRY_NUMBERS = .int 3 := rfl
  generalize hL : (Txt.split line " ").map (fun w => wordI 10 (tl w)) = l at hin ⊢
  clear hL
  have hopt := in_opt (l := l) S
  have hred := fun x => is_reduced_eq (G := G) (S := S) w (x := x)
  have hlen : p_len [.tup (l.map optD)] S = .ok (.int (l.length : Nat)) S := by rw [len_tup, List.length_map]
  by_cases hl3 : l.length = 3
  · obtain ⟨a, b, c, rfl⟩ : ∃ a b c, l = [a, b, c] := by
      match l, hl3 with
      | [a, b, c], _ => exact ⟨a, b, c, rfl⟩
    have hlen : p_len [.tup ([a, b, c].map optD)] S = .ok (.int 3) S := rfl
    by_cases hno : ([a, b, c].any (·.isNone)) = true
    · rw [hno] at hopt
      push_cast [hS, hsp, mp_integers_in, hin, hk, hlen, hopt]
      refine ⟨?_, trivial⟩
      cases a <;> cases b <;> cases c <;> first | rfl | (simp at hno)
    · have hno : ([a, b, c].any (·.isNone)) = false := by
        cases q : ([a, b, c].any (·.isNone)) with
        | false => rfl
        | true => exact absurd q hno
      rw [hno] at hopt
      cases a with
      | none => simp at hno
      | some a =>
      cases b with
      | none => simp at hno
      | some b =>
      cases c with
      | none => simp at hno
      | some c =>
      have hval : entL n p [some a, some b, some c] = if 0 ≤ a ∧ a < b ∧ b < n ∧ c ≠ 0 ∧ 2 * (c.natAbs : Int) < p then some (a, b, c) else none := rfl
      have e3 : [some a, some b, some c].map optD = [.int a, .int b, .int c] := rfl
      rw [e3] at hin hopt hlen
      generalize entL n p [some a, some b, some c] = V at hval ⊢
      have ht : ∀ ρ, g_tup 3 (g_cons (g_name 3) (g_cons (g_name 4) (g_cons (g_name 5) g_nil))) (.tup [.int a, .int b, .int c]) ρ S = .ok (((ρ.set 3 (some (.int a))).set 4 (some (.int b))).set 5 (some (.int c))) S := fun ρ => rfl
      by_cases h1 : 0 ≤ a
      · by_cases h2 : a < b
        · by_cases h3 : b < n
          · by_cases h4 : c = 0
            · rw [if_neg (fun z => z.2.2.2.1 h4)] at hval
              subst hval
              subst h4
              push_cast [hS, hsp, mp_integers_in, hin, hk, hlen, hopt, ht, e_chain3, h1, h2, h3, clsOf_plan, accounts_eq]
              all_goals first | exact ⟨rfl, trivial⟩ | exact ⟨trivial, trivial⟩ | exact trivial | exact ⟨rfl, rfl⟩
            · by_cases h5 : 2 * (c.natAbs : Int) < p
              · rw [if_pos ⟨h1, h2, h3, h4, h5⟩] at hval
                subst hval
                push_cast [hS, hsp, mp_integers_in, hin, hk, hlen, hopt, ht, e_chain3, h1, h2, h3, h4, clsOf_plan, accounts_eq, mp_is_reduced, hred, h5]
                all_goals first | exact ⟨rfl, trivial⟩ | exact ⟨trivial, trivial⟩ | exact trivial | exact ⟨rfl, rfl⟩
              · rw [if_neg (fun z => h5 z.2.2.2.2)] at hval
                subst hval
                push_cast [hS, hsp, mp_integers_in, hin, hk, hlen, hopt, ht, e_chain3, h1, h2, h3, h4, clsOf_plan, accounts_eq, mp_is_reduced, hred, h5]
                all_goals first | exact ⟨rfl, trivial⟩ | exact ⟨trivial, trivial⟩ | exact trivial | exact ⟨rfl, rfl⟩
          · rw [if_neg (fun z => h3 z.2.2.1)] at hval
            subst hval
            push_cast [hS, hsp, mp_integers_in, hin, hk, hlen, hopt, ht, e_chain3, h1, h2, h3, clsOf_plan, accounts_eq]
            all_goals first | exact ⟨rfl, trivial⟩ | exact ⟨trivial, trivial⟩ | exact trivial | exact ⟨rfl, rfl⟩
        · rw [if_neg (fun z => h2 z.2.1)] at hval
          subst hval
          push_cast [hS, hsp, mp_integers_in, hin, hk, hlen, hopt, ht, e_chain3, h1, h2]
          all_goals first | exact ⟨rfl, trivial⟩ | exact ⟨trivial, trivial⟩ | exact trivial | exact ⟨rfl, rfl⟩
      · rw [if_neg (fun z => h1 z.1)] at hval
        subst hval
        push_cast [hS, hsp, mp_integers_in, hin, hk, hlen, hopt, ht, e_chain3, h1]
        all_goals first | exact ⟨rfl, trivial⟩ | exact ⟨trivial, trivial⟩ | exact trivial | exact ⟨rfl, rfl⟩
  · have q : ¬ ((l.length : Nat) : Int) = 3 := by omega
    have hnone : entL n p l = none := by
      unfold entL
      split
      · simp at hl3
      · rfl
    rw [hnone]
    push_cast [hS, hsp, mp_integers_in, hin, hk, hlen, q]
    all_goals first | exact ⟨rfl, trivial⟩ | exact ⟨trivial, trivial⟩ | exact trivial | exact ⟨rfl, rfl⟩
end
end K52
set_option Elab.async false
set_option linter.all false
set_option maxRecDepth 100000
set_option maxHeartbeats 4000000
namespace K52
open PySem PySem.Spec PyProof.Rows L2 DL
/-! ### entries, as the law reads them -/
section
variable {G : Gx} {S : Sto} {p n k : Int}
theorem in_optL {l : List (Option Int)} (S : Sto) : p_in false .non (.lst (l.map optD)) S = .ok (.bl (l.any (·.isNone))) S := in_opt (l := l) S
theorem law_entry_eq (w : Sc p n k) {line : PySem.Str} (h : line.length ≤ 100000) : m__law_entry G [szD p n k, .str line] S = .ok (entO (entF 30 n p line)) S := by
  refine eq_wp ?_
  rw [m__law_entry, fnR_eq]
  show wp (ret S (c__law_entry G [some (.tup [.int p, .int n, .int k]), some (.str line), none, none, none, none, none] S)) _
  unfold c__law_entry
  have hsp := splitSp (x := line) (by omega) S
  have hws : ∀ v ∈ Txt.split line " ", v.length ≤ 1000000 := fun v hv => by have := (split_le hv).1; omega
  have hwl : (Txt.split line " ").length ≤ 1000000 := by have := PyProof.Rows.split_le line " "; omega
  rw [entF_eq]
  rw [lst_f (by rw [List.length_map]; exact hwl)] at hsp
  have hS : isS (.str line) S = true := rfl
  have hin : c_lc (c_it (c_meth isS (p_split false) (c_var 1) (c_cons (c_d (.str " ")) c_nil))) (g_name 3) c_yes (c_cb (mp__law_integer G) (c_cons (c_var 3) c_nil)) [3] [some (.tup [.int p, .int n, .int k]), some (.str line), none, none, none, none, none] S = .ok (.lst (((Txt.split line " ").map fun w => wordI 30 (tl w)).map optD)) S := by
    have := lc_eqM (S := S) (ci := c_it (c_meth isS (p_split false) (c_var 1) (c_cons (c_d (.str " ")) c_nil))) (g := g_name 3) (t := c_yes) (a := c_cb (mp__law_integer G) (c_cons (c_var 3) c_nil)) (own := [3]) (ρ := [some (.tup [.int p, .int n, .int k]), some (.str line), none, none, none, none, none]) (Txt.split line " ") D.str (fun w => optD (wordI 30 (tl w))) (it_eq (x := .lst ((Txt.split line " ").map D.str)) (S1 := S) (by push_cast [hS, hsp]) rfl) hwl (ok_one rfl) (fun w hw => by push_cast [mp__law_integer, law_integer_eq (G := G) (S := S) (w := w) (hws w hw)])
    rw [this, List.map_map]
    rfl
  have hb : ∀ i : Int, some i ∈ (Txt.split line " ").map (fun w => wordI 30 (tl w)) → i.natAbs < 10 ^ 30 := fun i hi => by
    obtain ⟨v, _, hv⟩ := List.mem_map.mp hi
    exact wordI_lt hv
  generalize hL : (Txt.split line " ").map (fun w => wordI 30 (tl w)) = l at hin hb ⊢
  clear hL
  have hopt := in_optL (l := l) S
  have hlen : p_len [.lst (l.map optD)] S = .ok (.int (l.length : Nat)) S := by rw [len_lst, List.length_map]
  by_cases hl3 : l.length = 3
  · obtain ⟨a, b, c, rfl⟩ : ∃ a b c, l = [a, b, c] := by
      match l, hl3 with
      | [a, b, c], _ => exact ⟨a, b, c, rfl⟩
    have hlen : p_len [.lst ([a, b, c].map optD)] S = .ok (.int 3) S := rfl
    by_cases hno : ([a, b, c].any (·.isNone)) = true
    · rw [hno] at hopt
      push_cast [hin, hlen, hopt]
      refine ⟨?_, trivial⟩
      cases a <;> cases b <;> cases c <;> first | rfl | (simp at hno)
    · have hno : ([a, b, c].any (·.isNone)) = false := by
        cases q : ([a, b, c].any (·.isNone)) with
        | false => rfl
        | true => exact absurd q hno
      rw [hno] at hopt
      cases a with
      | none => simp at hno
      | some a =>
      cases b with
      | none => simp at hno
      | some b =>
      cases c with
      | none => simp at hno
      | some c =>
      have hval : entL n p [some a, some b, some c] = if 0 ≤ a ∧ a < b ∧ b < n ∧ c ≠ 0 ∧ 2 * (c.natAbs : Int) < p then some (a, b, c) else none := rfl
      have e3 : [some a, some b, some c].map optD = [.int a, .int b, .int c] := rfl
      rw [e3] at hin hopt hlen
      have hcb := hb c (by simp)
      clear hl3 hno e3
      generalize entL n p [some a, some b, some c] = V at hval ⊢
      have ht : ∀ ρ, g_tup 3 (g_cons (g_name 4) (g_cons (g_name 5) (g_cons (g_name 6) g_nil))) (.lst [.int a, .int b, .int c]) ρ S = .ok (((ρ.set 4 (some (.int a))).set 5 (some (.int b))).set 6 (some (.int c))) S := fun ρ => rfl
      by_cases h1 : 0 ≤ a
      · have h1' : ¬ a < 0 := by omega
        by_cases h2 : a < b
        · have h2' : ¬ b ≤ a := by omega
          by_cases h3 : b < n
          · have h3' : ¬ n ≤ b := by omega
            by_cases h4 : c = 0
            · rw [if_neg (fun z => z.2.2.2.1 h4)] at hval
              subst hval
              subst h4
              push_cast [hin, hlen, hopt, ht, h1', h2', h3']
              all_goals first | exact ⟨rfl, trivial⟩ | exact ⟨trivial, trivial⟩ | exact trivial | exact ⟨rfl, rfl⟩
            · have e : (if c < 0 then -c else c) = (c.natAbs : Int) := by split <;> omega
              by_cases h5 : 2 * (c.natAbs : Int) < p
              · have h5' : ¬ p ≤ 2 * (c.natAbs : Int) := by omega
                rw [if_pos ⟨h1, h2, h3, h4, h5⟩] at hval
                subst hval
                push_cast [hin, hlen, hopt, ht, h1', h2', h3', h4, abs_eq, e, h5']
                all_goals first | exact ⟨rfl, trivial⟩ | exact ⟨trivial, trivial⟩ | exact trivial | exact ⟨rfl, rfl⟩
              · have h5' : p ≤ 2 * (c.natAbs : Int) := by omega
                rw [if_neg (fun z => h5 z.2.2.2.2)] at hval
                subst hval
                push_cast [hin, hlen, hopt, ht, h1', h2', h3', h4, abs_eq, e, h5']
                all_goals first | exact ⟨rfl, trivial⟩ | exact ⟨trivial, trivial⟩ | exact trivial | exact ⟨rfl, rfl⟩
          · have h3' : n ≤ b := by omega
            rw [if_neg (fun z => h3 z.2.2.1)] at hval
            subst hval
            push_cast [hin, hlen, hopt, ht, h1', h2', h3']
            all_goals first | exact ⟨rfl, trivial⟩ | exact ⟨trivial, trivial⟩ | exact trivial | exact ⟨rfl, rfl⟩
        · have h2' : b ≤ a := by omega
          rw [if_neg (fun z => h2 z.2.1)] at hval
          subst hval
          push_cast [hin, hlen, hopt, ht, h1', h2']
          all_goals first | exact ⟨rfl, trivial⟩ | exact ⟨trivial, trivial⟩ | exact trivial | exact ⟨rfl, rfl⟩
      · have h1' : a < 0 := by omega
        rw [if_neg (fun z => h1 z.1)] at hval
        subst hval
        push_cast [hin, hlen, hopt, ht, h1']
        all_goals first | exact ⟨rfl, trivial⟩ | exact ⟨trivial, trivial⟩ | exact trivial | exact ⟨rfl, rfl⟩
  · have q : ¬ ((l.length : Nat) : Int) = 3 := by omega
    have hnone : entL n p l = none := by
      unfold entL
      split
      · simp at hl3
      · rfl
    rw [hnone]
    push_cast [hin, hlen, q]
    all_goals first | exact ⟨rfl, trivial⟩ | exact ⟨trivial, trivial⟩ | exact trivial | exact ⟨rfl, rfl⟩
end
end K52
set_option Elab.async false
set_option linter.all false
set_option maxRecDepth 100000
set_option maxHeartbeats 4000000
namespace K52
open PySem PySem.Spec PyProof.Rows L2 DL
/-! ### a whole text -/
def leP (t u : Int × Int × Int) : Bool := decide (t.1 < u.1 ∨ (t.1 = u.1 ∧ t.2.1 ≤ u.2.1))
def clash (acc : List (Int × Int × Int)) (t : Int × Int × Int) : Bool := match acc.getLast? with
  | none => false
  | some u => leP t u
def readF (e : PySem.Str → Option (Int × Int × Int)) : List PySem.Str → Nat → List (Int × Int × Int) → List (Int × Int × Int) ⊕ Nat
  | [], _, acc => .inl acc
  | l :: ls, i, acc => match e l with
    | none => .inr i
    | some t => if clash acc t = true then .inr i else readF e ls (i + 1) (acc ++ [t])
def linesF (text : PySem.Str) : List PySem.Str := if text = ("" : PySem.Str) then [] else Txt.split text "\n"
theorem lexLe2 {a b c d : Int} : lexLe [a, b] [c, d] = decide (a < c ∨ (a = c ∧ b ≤ d)) := by
  unfold lexLe
  show (if decide (a = c) = true then (if decide (b = d) = true then decide (2 ≤ 2) else decide (b ≤ d)) else decide (a ≤ c)) = _
  by_cases h1 : a = c
  · by_cases h2 : b = d
    · rw [if_pos (decide_eq_true h1), if_pos (decide_eq_true h2)]
      exact (decide_eq_true (by omega)).trans (decide_eq_true (by omega)).symm
    · rw [if_pos (decide_eq_true h1), if_neg (by simpa using h2)]
      exact decide_eq_decide.mpr (by omega)
  · rw [if_neg (by simpa using h1)]
    exact decide_eq_decide.mpr (by omega)
theorem lexGe2 {a b c d : Int} : lexGe [c, d] [a, b] = decide (a < c ∨ (a = c ∧ b ≤ d)) := by
  unfold lexGe
  show (if decide (c = a) = true then (if decide (d = b) = true then decide (2 ≥ 2) else decide (d ≥ b)) else decide (c ≥ a)) = _
  by_cases h1 : c = a
  · by_cases h2 : d = b
    · rw [if_pos (decide_eq_true h1), if_pos (decide_eq_true h2)]
      exact (decide_eq_true (by omega)).trans (decide_eq_true (by omega)).symm
    · rw [if_pos (decide_eq_true h1), if_neg (by simpa using h2)]
      exact decide_eq_decide.mpr (by omega)
  · rw [if_neg (by simpa using h1)]
    exact decide_eq_decide.mpr (by omega)
section
variable {G : Gx} {S : Sto} {p n k : Int}
theorem leT_ent {t u : Int × Int × Int} : p_leT (.tup [.int t.1, .int t.2.1]) (.tup [.int u.1, .int u.2.1]) S = .ok (.bl (leP t u)) S := by
  unfold leP
  rw [← lexLe2]
  rfl
theorem geT_ent {t u : Int × Int × Int} : p_geT (.tup [.int u.1, .int u.2.1]) (.tup [.int t.1, .int t.2.1]) S = .ok (.bl (leP t u)) S := by
  unfold leP
  rw [← lexGe2]
  rfl
theorem ent_ix0 {t : Int × Int × Int} : p_ix (entD t) (.int 0) S = .ok (.tup [.int t.1, .int t.2.1]) S := rfl
def Eb (t : Int × Int × Int) : Prop := t.1.natAbs < 100 ∧ t.2.1.natAbs < 100 ∧ t.2.2.natAbs < 10 ^ 10
def entP (t : Int × Int × Int) : PyData := .tuple [.tuple [.int t.1, .int t.2.1], .int t.2.2]
theorem fx_ent {t : Int × Int × Int} (h : Eb t) : Fx 2 60 (entP t) :=
  (Fx.tuple (d := 1) (w := 20) (ps := [.tuple [.int t.1, .int t.2.1], .int t.2.2]) fun q hq => by
    simp only [List.mem_cons, List.not_mem_nil, or_false] at hq
    rcases hq with rfl | rfl
    · refine (Fx.tuple (d := 0) (w := 3) (ps := [.int t.1, .int t.2.1]) fun q hq => ?_).mono (Nat.le_refl _) (by simp)
      simp only [List.mem_cons, List.not_mem_nil, or_false] at hq
      rcases hq with rfl | rfl
      · exact Fx.int (k := 2) (by decide) (by decide) (by have := h.1; omega)
      · exact Fx.int (k := 2) (by decide) (by decide) (by have := h.2.1; omega)
    · exact (Fx.int (k := 10) (by decide) (by decide) h.2.2).mono (by decide) (by decide)).mono (Nat.le_refl _) (by simp)
theorem py_ent {t : Int × Int × Int} : pyOf S (entD t) = some (entP t) := rfl
theorem flat_ent {t : Int × Int × Int} : DL.flat (entD t) = some (entP t) := rfl
theorem fx_ents {l : List (Int × Int × Int)} (h : ∀ t ∈ l, Eb t) : Fx 3 (l.length * 62 + 2) (.list (l.map entP)) := by
  have := Fx.list (d := 2) (w := 60) (ps := l.map entP) fun q hq => by
    obtain ⟨t, ht, rfl⟩ := List.mem_map.mp hq
    exact fx_ent (h t ht)
  rw [List.length_map] at this
  exact this
theorem fx_entsT {l : List (Int × Int × Int)} (h : ∀ t ∈ l, Eb t) : Fx 3 (l.length * 62 + 3) (.tuple (l.map entP)) := by
  have := Fx.tuple (d := 2) (w := 60) (ps := l.map entP) fun q hq => by
    obtain ⟨t, ht, rfl⟩ := List.mem_map.mp hq
    exact fx_ent (h t ht)
  rw [List.length_map] at this
  exact this
/-- the last cell holds entries -/
theorem ne_found {acc : List (Int × Int × Int)} (hb : ∀ t ∈ acc, Eb t) : p_eq true (.ref S.length) (.lst []) (S ++ [some (.lst (acc.map entD))]) = .ok (.bl (!acc.isEmpty)) (S ++ [some (.lst (acc.map entD))]) := by
  have h1 : pyOf (S ++ [some (.lst (acc.map entD))]) (.ref S.length) = some (.list (acc.map entP)) := py_ref snoc_at (flatL_map fun t _ => flat_ent)
  have hs := (fx_ents hb).shaped (by decide)
  have hs2 : SeqAt.shaped (.list []) = true := by decide +kernel
  unfold p_eq
  rw [h1]
  show (if _ then _ else _) = _
  rw [if_pos ⟨hs, hs2⟩]
  cases acc with
  | nil => rfl
  | cons a l => rfl
theorem lt_ents {N : Nat} (l : List (Int × Int × Int)) : refsLt N (.tup (l.map entD)) = true := by
  show refsLtL N (l.map entD) = true
  refine ltL_all fun d hd => ?_
  obtain ⟨t, _, rfl⟩ := List.mem_map.mp hd
  rfl
theorem split_count (x : PySem.Str) (y : PySem.Str) : (Txt.split x y).length ≤ x.length + 2 := PyProof.Rows.split_le x y
theorem splitNl {x : PySem.Str} (h : x.length ≤ 100000) (S : Sto) : p_split false (.str x) [.str "\n"] S = .ok (.lst ((Txt.split x "\n").map D.str)) S := by
  have := split_count x "\n"
  show (if _ then _ else _) = _
  rw [if_pos ⟨by decide +kernel, by omega⟩, lst_f (by rw [List.length_map]; omega)]
theorem entF_eb {m : Nat} (w : Sc p n k) {line : PySem.Str} {t : Int × Int × Int} (h : entF m n p line = some t) : Eb t := by
  obtain ⟨x, y, z, _, _, _, _, h1, h2, h3, h4, h5⟩ := entF_some h
  have := w.n1
  have := w.p1
  exact ⟨by omega, by omega, by omega⟩
theorem read_table_text_wpx (w : Sc p n k) {text : PySem.Str} (h : text.length ≤ 100000) : wpx (m_read_table_text G [plan p n k, .str text] S) (fun d S' => S' = S ∧ ∃ es, readF (entF 10 n p) (linesF text) 0 [] = .inl es ∧ d = .tup (es.map entD)) fun c d S' => S' = S ∧ c = 0 ∧ ∃ i, readF (entF 10 n p) (linesF text) 0 [] = .inr i ∧ d = .int (i : Nat) := by
  rw [m_read_table_text, fnR_eq]
  show wpx (ret S (c_read_table_text G [some (plan p n k), some (.str text), none, none, none, none] S)) _ _
  unfold c_read_table_text
  have hi : p_isi [.str text, .ty "str"] S = .ok (.bl true) S := rfl
  have q1 : ∀ S, p_eqS true (.str text) (.str "") S = .ok (.bl (!decide (text = ("" : PySem.Str)))) S := fun S => rfl
  have hS : ∀ S, isS (.str text) S = true := fun _ => rfl
  have hsp := splitNl h
  have hlines : (linesF text).length ≤ 100002 ∧ ∀ l ∈ linesF text, l.length ≤ 100000 := by
    unfold linesF
    split
    · exact ⟨by simp, fun l hl => by cases hl⟩
    · exact ⟨by have := split_count text "\n"; omega, fun l hl => by have := (split_le hl).1; omega⟩
  have hw : ∀ S, c_if (c_test (c_op (p_eqS true) (c_var 1) (c_d (.str "")))) (c_meth isS (p_split false) (c_var 1) (c_cons (c_d (.str "\n")) c_nil)) (c_lst false c_nil) [some (plan p n k), some (.str text), some (.ref S.length), none, none, none] (S ++ [some (.lst [])]) = .ok (.lst ((linesF text).map D.str)) (S ++ [some (.lst [])]) := fun S => by
    unfold linesF
    by_cases he : text = ("" : PySem.Str)
    · rw [if_pos he]
      have q2 : ∀ S, p_eqS true (.str text) (.str "") S = .ok (.bl false) S := fun S => by rw [q1, decide_eq_true he]; rfl
      refine eq_wp ?_
      push_cast [q2]
      all_goals first | exact ⟨rfl, trivial⟩ | exact ⟨trivial, trivial⟩ | exact trivial | exact ⟨rfl, rfl⟩
    · rw [if_neg he]
      have q2 : ∀ S, p_eqS true (.str text) (.str "") S = .ok (.bl true) S := fun S => by rw [q1, decide_eq_false he]; rfl
      refine eq_wp ?_
      push_cast [q2, hS, hsp]
      all_goals first | exact ⟨rfl, trivial⟩ | exact ⟨trivial, trivial⟩ | exact trivial | exact ⟨rfl, rfl⟩
  generalize linesF text = ls at *
  push_cast [hi, lst_t]
  refine wpx_for ls.zipIdx (fun q => D.tup [.int (q.2 : Nat), .str q.1]) (fun pre ρ S' => ∃ acc o3 o4 o5, ρ = [some (plan p n k), some (.str text), some (.ref S.length), o3, o4, o5] ∧ S' = S ++ [some (.lst (acc.map entD))] ∧ acc.length ≤ pre.length ∧ (∀ t ∈ acc, Eb t) ∧ readF (entF 10 n p) ls 0 [] = readF (entF 10 n p) (ls.drop pre.length) pre.length acc)
    (by
      have := enum_eqW (a := c_cons (c_if (c_test (c_op (p_eqS true) (c_var 1) (c_d (.str "")))) (c_meth isS (p_split false) (c_var 1) (c_cons (c_d (.str "\n")) c_nil)) (c_lst false c_nil)) c_nil) (ρ := [some (plan p n k), some (.str text), some (.ref S.length), none, none, none]) (S := S ++ [some (.lst [])]) (S1 := S ++ [some (.lst [])]) (x := .lst (ls.map D.str)) (ds := ls.map D.str) (by show (_ : Res _).bind _ = _; rw [hw S]; rfl) rfl
      rw [enum_mapW] at this
      exact this) (fun _ _ _ _ => ok_one rfl) ⟨[], none, none, none, rfl, rfl, Nat.le_refl _, (fun _ h => by cases h), rfl⟩ ?_ ?_
  · rintro pre ⟨line, ix⟩ post ρ S' hl ⟨acc, o3, o4, o5, rfl, rfl, ha, hb, hr⟩
    obtain ⟨z1, z2, z3, z4, z5⟩ := zip_split hl
    have z1 : ix = pre.length := z1
    subst z1
    rw [z3, readF.eq_2] at hr
    rw [← z4] at hr
    have hline := hlines.2 line (by rw [z2]; simp)
    have hent := fun S => entry_in_eq (G := G) (S := S) w (line := line) hline
    rw [List.length_append, List.length_singleton]
    cases he : entF 10 n p line with
    | none =>
      simp only [he] at hr hent
      have hN : DL.isNon (entO none) = true := rfl
      push_cast [mp_entry_in, hent, hN]
      rw [retX_app rfl]
      exact ⟨rfl, rfl, pre.length, hr, rfl⟩
    | some t =>
      simp only [he] at hr hent
      have hN : DL.isNon (entO (some t)) = false := rfl
      have hne := ne_found (S := S) (acc := acc) hb
      have hb' : ∀ t' ∈ acc ++ [t], Eb t' := fun t' ht' => by
        rcases List.mem_append.mp ht' with h1 | h1
        · exact hb t' h1
        · have : t' = t := by simpa using h1
          rw [this]
          exact entF_eb w he
      have hix0 : ∀ S, p_ix (entO (some t)) (.int 0) S = .ok (.tup [.int t.1, .int t.2.1]) S := fun _ => rfl
      have hL : isL (.ref S.length) (S ++ [some (.lst (acc.map entD))]) = true := isL_ref snoc_at
      have happ := append_ref (n := S.length) (S := S ++ [some (.lst (acc.map entD))]) (ds := acc.map entD) (y := entO (some t)) snoc_at (by rw [List.length_map]; omega)
      rw [snoc_set] at happ
      have hcat : acc.map entD ++ [entO (some t)] = (acc ++ [t]).map entD := by rw [List.map_append]; rfl
      rw [hcat] at happ
      cases hacc : acc.getLast? with
      | none =>
        have h0 : acc = [] := List.getLast?_eq_none_iff.mp hacc
        have hc : clash acc t = false := by unfold clash; rw [hacc]
        rw [hc, if_neg Bool.false_ne_true] at hr
        have hem : acc.isEmpty = true := by rw [h0]; rfl
        rw [hem] at hne
        push_cast [mp_entry_in, hent, hN, hne, hL, happ]
        exact ⟨acc ++ [t], _, _, _, rfl, rfl, by rw [List.length_append, List.length_singleton]; omega, hb', hr⟩
      | some u =>
        have h0 : acc ≠ [] := fun z => by rw [z] at hacc; cases hacc
        have hem : acc.isEmpty = false := List.isEmpty_eq_false_iff.mpr h0
        rw [hem] at hne
        have hlast : p_ix (.ref S.length) (.int (-1)) (S ++ [some (.lst (acc.map entD))]) = .ok (entD u) (S ++ [some (.lst (acc.map entD))]) := by
          refine ix_ref snoc_at ?_
          unfold atD
          have hp := List.length_pos_iff.mpr h0
          rw [ixN_neg (by omega) (by rw [List.length_map]; omega)]
          have e9 : ((-1 : Int) + ((acc.map entD).length : Nat)).toNat = acc.length - 1 := by rw [List.length_map]; omega
          rw [e9, Option.bind_some, List.getElem?_map, ← List.getLast?_eq_getElem?, hacc]
          rfl
        have hc : clash acc t = leP t u := by unfold clash; rw [hacc]
        rw [hc] at hr
        have hle := leT_ent (S := S ++ [some (.lst (acc.map entD))]) (t := t) (u := u)
        cases hlp : leP t u with
        | true =>
          rw [hlp, if_pos rfl] at hr
          rw [hlp] at hle
          push_cast [mp_entry_in, hent, hN, hne, hix0, hlast, ent_ix0, hle]
          rw [retX_app rfl]
          exact ⟨rfl, rfl, pre.length, hr, rfl⟩
        | false =>
          rw [hlp, if_neg Bool.false_ne_true] at hr
          rw [hlp] at hle
          push_cast [mp_entry_in, hent, hN, hne, hix0, hlast, ent_ix0, hle, hL, happ]
          exact ⟨acc ++ [t], _, _, _, rfl, rfl, by rw [List.length_append, List.length_singleton]; omega, hb', hr⟩
  · rintro ρ S' ⟨acc, o3, o4, o5, rfl, rfl, ha, hb, hr⟩
    rw [List.length_zipIdx, List.drop_length] at hr
    rw [List.length_zipIdx] at ha
    have htup : p_tuple [.ref S.length] (S ++ [some (.lst (acc.map entD))]) = .ok (.tup (acc.map entD)) (S ++ [some (.lst (acc.map entD))]) := by
      have key : itemsOf (.ref S.length) (S ++ [some (Cell.lst (acc.map entD))]) = some (acc.map entD) := items_ref snoc_at
      unfold p_tuple
      simp only [key]
      exact tup_f (by rw [List.length_map]; omega)
    push_cast [htup]
    rw [fin_app (lt_ents acc), wpx_ok]
    exact ⟨rfl, acc, hr, rfl⟩
end
end K52
set_option Elab.async false
set_option linter.all false
set_option maxRecDepth 100000
set_option maxHeartbeats 4000000
namespace K52
open PySem PySem.Spec PyProof.Rows L2 DL
/-! ### a whole text, as the law reads it; what is heard -/
def sumD : List (Int × Int × Int) ⊕ Nat → D
  | .inl es => .tup (es.map entD)
  | .inr i => .int (i : Nat)
section
variable {G : Gx} {S : Sto} {p n k : Int}
theorem decided_eq (w : Sc p n k) {text : PySem.Str} (h : text.length ≤ 100000) : m__law_decided G [szD p n k, .str text] S = .ok (sumD (readF (entF 30 n p) (linesF text) 0 [])) S := by
  refine eq_wp ?_
  rw [m__law_decided, fnR_eq]
  show wp (ret S (c__law_decided G [some (szD p n k), some (.str text), none, none, none, none] S)) _
  unfold c__law_decided
  have hi : p_isi [.str text, .ty "str"] S = .ok (.bl true) S := rfl
  have q1 : ∀ S, p_eqS true (.str text) (.str "") S = .ok (.bl (!decide (text = ("" : PySem.Str)))) S := fun S => rfl
  have hS : ∀ S, isS (.str text) S = true := fun _ => rfl
  have hsp := splitNl h
  have hlines : (linesF text).length ≤ 100002 ∧ ∀ l ∈ linesF text, l.length ≤ 100000 := by
    unfold linesF
    split
    · exact ⟨by simp, fun l hl => by cases hl⟩
    · exact ⟨by have := split_count text "\n"; omega, fun l hl => by have := (split_le hl).1; omega⟩
  have hw : ∀ S, c_if (c_test (c_op (p_eqS true) (c_var 1) (c_d (.str "")))) (c_meth isS (p_split false) (c_var 1) (c_cons (c_d (.str "\n")) c_nil)) (c_lst false c_nil) [some (szD p n k), some (.str text), some (.ref S.length), none, none, none] (S ++ [some (.lst [])]) = .ok (.lst ((linesF text).map D.str)) (S ++ [some (.lst [])]) := fun S => by
    unfold linesF
    by_cases he : text = ("" : PySem.Str)
    · rw [if_pos he]
      have q2 : ∀ S, p_eqS true (.str text) (.str "") S = .ok (.bl false) S := fun S => by rw [q1, decide_eq_true he]; rfl
      refine eq_wp ?_
      push_cast [q2]
      all_goals first | exact ⟨rfl, trivial⟩ | exact ⟨trivial, trivial⟩ | exact trivial | exact ⟨rfl, rfl⟩
    · rw [if_neg he]
      have q2 : ∀ S, p_eqS true (.str text) (.str "") S = .ok (.bl true) S := fun S => by rw [q1, decide_eq_false he]; rfl
      refine eq_wp ?_
      push_cast [q2, hS, hsp]
      all_goals first | exact ⟨rfl, trivial⟩ | exact ⟨trivial, trivial⟩ | exact trivial | exact ⟨rfl, rfl⟩
  generalize linesF text = ls at *
  push_cast [hi, lst_t]
  refine wp_for ls.zipIdx (fun q => D.tup [.int (q.2 : Nat), .str q.1]) (fun pre ρ S' => ∃ acc o3 o4 o5, ρ = [some (szD p n k), some (.str text), some (.ref S.length), o3, o4, o5] ∧ S' = S ++ [some (.lst (acc.map entD))] ∧ acc.length ≤ pre.length ∧ (∀ t ∈ acc, Eb t) ∧ readF (entF 30 n p) ls 0 [] = readF (entF 30 n p) (ls.drop pre.length) pre.length acc)
    (by
      have := enum_eqW (a := c_cons (c_if (c_test (c_op (p_eqS true) (c_var 1) (c_d (.str "")))) (c_meth isS (p_split false) (c_var 1) (c_cons (c_d (.str "\n")) c_nil)) (c_lst false c_nil)) c_nil) (ρ := [some (szD p n k), some (.str text), some (.ref S.length), none, none, none]) (S := S ++ [some (.lst [])]) (S1 := S ++ [some (.lst [])]) (x := .lst (ls.map D.str)) (ds := ls.map D.str) (by show (_ : Res _).bind _ = _; rw [hw S]; rfl) rfl
      rw [enum_mapW] at this
      exact this) (fun _ _ _ _ => ok_one rfl) ⟨[], none, none, none, rfl, rfl, Nat.le_refl _, (fun _ h => by cases h), rfl⟩ ?_ ?_
  · rintro pre ⟨line, ix⟩ post ρ S' hl ⟨acc, o3, o4, o5, rfl, rfl, ha, hb, hr⟩
    obtain ⟨z1, z2, z3, z4, z5⟩ := zip_split hl
    have z1 : ix = pre.length := z1
    subst z1
    rw [z3, readF.eq_2] at hr
    rw [← z4] at hr
    have hline := hlines.2 line (by rw [z2]; simp)
    have hent := fun S => law_entry_eq (G := G) (S := S) w (line := line) hline
    rw [List.length_append, List.length_singleton]
    cases he : entF 30 n p line with
    | none =>
      simp only [he] at hr hent
      have hN : DL.isNon (entO none) = true := rfl
      push_cast [mp__law_entry, hent, hN]
      refine wp_fin_app rfl ⟨?_, rfl⟩
      rw [hr]
      rfl
    | some t =>
      simp only [he] at hr hent
      have hN : DL.isNon (entO (some t)) = false := rfl
      have hne := ne_found (S := S) (acc := acc) hb
      have hb' : ∀ t' ∈ acc ++ [t], Eb t' := fun t' ht' => by
        rcases List.mem_append.mp ht' with h1 | h1
        · exact hb t' h1
        · have : t' = t := by simpa using h1
          rw [this]
          exact entF_eb w he
      have hix0 : ∀ S, p_ix (entO (some t)) (.int 0) S = .ok (.tup [.int t.1, .int t.2.1]) S := fun _ => rfl
      have hL : isL (.ref S.length) (S ++ [some (.lst (acc.map entD))]) = true := isL_ref snoc_at
      have happ := append_ref (n := S.length) (S := S ++ [some (.lst (acc.map entD))]) (ds := acc.map entD) (y := entO (some t)) snoc_at (by rw [List.length_map]; omega)
      rw [snoc_set] at happ
      have hcat : acc.map entD ++ [entO (some t)] = (acc ++ [t]).map entD := by rw [List.map_append]; rfl
      rw [hcat] at happ
      cases hacc : acc.getLast? with
      | none =>
        have h0 : acc = [] := List.getLast?_eq_none_iff.mp hacc
        have hc : clash acc t = false := by unfold clash; rw [hacc]
        rw [hc, if_neg Bool.false_ne_true] at hr
        have hem : acc.isEmpty = true := by rw [h0]; rfl
        rw [hem] at hne
        push_cast [mp__law_entry, hent, hN, hne, hL, happ]
        exact ⟨acc ++ [t], _, _, _, rfl, rfl, by rw [List.length_append, List.length_singleton]; omega, hb', hr⟩
      | some u =>
        have h0 : acc ≠ [] := fun z => by rw [z] at hacc; cases hacc
        have hem : acc.isEmpty = false := List.isEmpty_eq_false_iff.mpr h0
        rw [hem] at hne
        have hlast : p_ix (.ref S.length) (.int (-1)) (S ++ [some (.lst (acc.map entD))]) = .ok (entD u) (S ++ [some (.lst (acc.map entD))]) := by
          refine ix_ref snoc_at ?_
          unfold atD
          have hp := List.length_pos_iff.mpr h0
          rw [ixN_neg (by omega) (by rw [List.length_map]; omega)]
          have e9 : ((-1 : Int) + ((acc.map entD).length : Nat)).toNat = acc.length - 1 := by rw [List.length_map]; omega
          rw [e9, Option.bind_some, List.getElem?_map, ← List.getLast?_eq_getElem?, hacc]
          rfl
        have hc : clash acc t = leP t u := by unfold clash; rw [hacc]
        rw [hc] at hr
        have hle := geT_ent (S := S ++ [some (.lst (acc.map entD))]) (t := t) (u := u)
        cases hlp : leP t u with
        | true =>
          rw [hlp, if_pos rfl] at hr
          rw [hlp] at hle
          push_cast [mp__law_entry, hent, hN, hne, hix0, hlast, ent_ix0, hle]
          refine wp_fin_app rfl ⟨?_, rfl⟩
          rw [hr]
          rfl
        | false =>
          rw [hlp, if_neg Bool.false_ne_true] at hr
          rw [hlp] at hle
          push_cast [mp__law_entry, hent, hN, hne, hix0, hlast, ent_ix0, hle, hL, happ]
          exact ⟨acc ++ [t], _, _, _, rfl, rfl, by rw [List.length_append, List.length_singleton]; omega, hb', hr⟩
  · rintro ρ S' ⟨acc, o3, o4, o5, rfl, rfl, ha, hb, hr⟩
    rw [List.length_zipIdx, List.drop_length] at hr
    rw [List.length_zipIdx] at ha
    have htup : p_tuple [.ref S.length] (S ++ [some (.lst (acc.map entD))]) = .ok (.tup (acc.map entD)) (S ++ [some (.lst (acc.map entD))]) := by
      have key : itemsOf (.ref S.length) (S ++ [some (Cell.lst (acc.map entD))]) = some (acc.map entD) := items_ref snoc_at
      unfold p_tuple
      simp only [key]
      exact tup_f (by rw [List.length_map]; omega)
    push_cast [htup]
    refine wp_fin_app (lt_ents acc) ⟨?_, rfl⟩
    rw [hr, readF.eq_1]
    rfl
theorem readF_congr {e e' : PySem.Str → Option (Int × Int × Int)} (h : ∀ l, e l = e' l) : ∀ (ls : List PySem.Str) (i : Nat) (acc : List (Int × Int × Int)), readF e ls i acc = readF e' ls i acc
  | [], _, _ => rfl
  | l :: ls, i, acc => by
    rw [readF.eq_2, readF.eq_2, h l]
    cases e' l with
    | none => rfl
    | some t =>
      show (if _ then _ else _) = (if _ then _ else _)
      rw [readF_congr h ls]
theorem isEc : p_isE (.con (G.exc 1)) tab_CrossError [.err 0 x, .con (G.exc 1)] S = .ok (.bl true) S := by
  have h : sameC (.con (G.exc 1)) (.con (G.exc 1)) = true := by simp [sameC]
  unfold p_isE
  simp only [h, if_true]
  rfl
theorem isEv : p_isE (.ty "ValueError") tab_ValueError [.err 0 x, .ty "ValueError"] S = .ok (.bl true) S := by
  have h : sameC (.ty "ValueError") (.ty "ValueError") = true := by simp [sameC]
  unfold p_isE
  simp only [h, if_true]
  rfl
def xf0 (x : D) (S1 : Sto) : Res D := match x with
  | .err c' d => if c' = 0 then .ok d S1 else .stuck
  | _ => .stuck
theorem e_xf {a : ECode} {ρ : DL.Env} : c_xf 0 a ρ S = (a ρ S).bind xf0 := rfl
theorem v_xf {x : D} : xf0 (.err 0 x) S = .ok x S := rfl
/-- what the program answers to a value -/
def Ans (G : Gx) (p n k : Int) (d a : D) (S : Sto) : Prop := m_read_table_text G [plan p n k, d] S = .ok a S ∨ m_read_table_text G [plan p n k, d] S = .ex 0 a S
theorem heard_eq {d a : D} {b : Bool} (h : Ans G p n k d a S) (ha : DL.noErr a = true) : m__law_heard G [plan p n k, d, .bl b] S = .ok a S := by
  refine eq_wp ?_
  rw [m__law_heard, fnR_eq]
  show wp (ret S (c__law_heard G [some (plan p n k), some d, some (.bl b), none, none] S)) _
  unfold c__law_heard
  refine wp_wpx ?_
  push_cast []
  have hb : ∀ (Q : Flo → Sto → Prop) (X : Nat → D → Sto → Prop), (∀ a', m_read_table_text G [plan p n k, d] S = .ok a' S → Q (.nx [some (plan p n k), some d, some (.bl b), some a', none]) S) → (∀ a', m_read_table_text G [plan p n k, d] S = .ex 0 a' S → X 0 a' S) →
      wpx (c_set 3 (c_if (c_test (c_var 2)) (c_callK 0 2 (gP D.non [1, 0]) (m_read_table_text G) c_nil (c_cons (c_var 1) (c_cons (c_var 0) c_nil))) (c_cb (mp_read_table_text G) (c_cons (c_var 0) (c_cons (c_var 1) c_nil)))) [some (plan p n k), some d, some (.bl b), some (.str "other"), none] S) Q X := fun Q X h1 h2 => by
    rcases h with h | h
    · cases b
      · push_cast [mp_read_table_text, h]
        exact h1 a h
      · push_cast [DL.gP, List.map_cons, List.map_nil, List.getD_cons_zero, List.getD_cons_succ, List.append_assoc, List.append_eq, List.nil_append, h]
        exact h1 a h
    · cases b
      · push_cast [mp_read_table_text, h]
        exact h2 a h
      · push_cast [DL.gP, List.map_cons, List.map_nil, List.getD_cons_zero, List.getD_cons_succ, List.append_assoc, List.nil_append, h]
        exact h2 a h
  refine wpx_try (hb _ _ (fun a' e => ?_) fun a' e => ?_)
  · rcases h with h | h
    · rw [h] at e
      cases e
      push_cast []
      all_goals first | exact ⟨rfl, trivial⟩ | exact ⟨trivial, trivial⟩ | exact trivial | exact ⟨rfl, rfl⟩
    · rw [h] at e; cases e
  · rcases h with h | h
    · rw [h] at e; cases e
    · rw [h] at e
      cases e
      have ht : tabm_BadText 0 = some true := rfl
      rw [ht]
      show wp _ _
      push_cast [isEc, isEv, e_xf, v_xf]
      refine ⟨by first | rfl | trivial, ?_, ?_⟩
      · rintro (_ | _ | _ | _ | _ | j) z q
        · exact .inl q
        · exact .inl q
        · exact .inl q
        · cases q
          exact .inr ha
        · cases q
        · cases q
      · push_cast [floEnd]
        all_goals first | exact ⟨rfl, trivial⟩ | exact ⟨trivial, trivial⟩ | exact trivial | exact ⟨rfl, rfl⟩
theorem ans_str (w : Sc p n k) {text : PySem.Str} (h : text.length ≤ 100000) : Ans G p n k (.str text) (sumD (readF (entF 30 n p) (linesF text) 0 [])) S := by
  have e : readF (entF 30 n p) (linesF text) 0 [] = readF (entF 10 n p) (linesF text) 0 [] := readF_congr (fun l => entF_more w.n1 w.p1) _ _ _
  rw [e]
  rcases wpx_ex2 (read_table_text_wpx (G := G) (S := S) w h) with ⟨a, S1, e1, rfl, es, e2, rfl⟩ | ⟨c, d, S1, e1, rfl, rfl, i, e2, rfl⟩
  · exact .inl (by rw [e1, e2]; rfl)
  · exact .inr (by rw [e1, e2]; rfl)
end
end K52
set_option Elab.async false
set_option linter.all false
set_option maxRecDepth 100000
set_option maxHeartbeats 4000000
namespace K52
open PySem PySem.Spec PyProof.Rows L2 DL
/-! ### the law's question -/
section
variable {G : Gx} {S : Sto} {p n k : Int}
theorem right_eq {d a : D} {q : PyData} {ww : Nat} (hdec : m__law_decided G [szD p n k, d] S = .ok a S) (hans : Ans G p n k d a S) (ha : DL.noErr a = true) (hp : pyOf S a = some q) (hF : Fx 3 ww q) (hw : ww ≤ 400000) : m__law_right G [plan p n k, szD p n k, d] S = .ok (.bl true) S := by
  refine eq_wp ?_
  rw [m__law_right, fnR_eq]
  show wp (ret S (c__law_right G [some (plan p n k), some (szD p n k), some d, none] S)) _
  unfold c__law_right
  have hh := fun b => heard_eq (G := G) (S := S) (b := b) hans ha
  have hP : pyOf S (.lst [a, a]) = some (.list [q, q]) := by
    rw [pyOf, pyOfL, pyOfL, pyOfL, hp]
    rfl
  have hF2 : Fx 4 (2 * (ww + 2) + 2) (.list [q, q]) := Fx.list (d := 3) (w := ww) (ps := [q, q]) fun r hr => by
    simp only [List.mem_cons, List.not_mem_nil, or_false] at hr
    rcases hr with rfl | rfl <;> exact hF
  have hr := repr_x (S := S) hP hF2 rfl (by decide) (by omega)
  have he := eq_strB (n := false) (S := S) hF2.ok
  push_cast [mp__law_decided, hdec, mp__law_heard, hh, hr, he]
  all_goals first | exact ⟨rfl, trivial⟩ | exact ⟨trivial, trivial⟩ | exact trivial | exact ⟨rfl, rfl⟩
theorem noErr_ents {l : List (Int × Int × Int)} : DL.noErr (.tup (l.map entD)) = true := by
  show noErrL (l.map entD) = true
  induction l with
  | nil => rfl
  | cons t l ih =>
    rw [List.map_cons, noErrL, ih]
    rfl
theorem readF_eb {e : PySem.Str → Option (Int × Int × Int)} (he : ∀ l t, e l = some t → Eb t) : ∀ (ls : List PySem.Str) (i : Nat) (acc : List (Int × Int × Int)), (∀ t ∈ acc, Eb t) → match readF e ls i acc with
    | .inl es => (∀ t ∈ es, Eb t) ∧ es.length ≤ acc.length + ls.length
    | .inr j => j < i + ls.length
  | [], _, acc, h => ⟨h, Nat.le_refl _⟩
  | l :: ls, i, acc, h => by
    rw [readF.eq_2]
    cases hl : e l with
    | none =>
      show i < _
      rw [List.length_cons]
      omega
    | some t =>
      show match (if clash acc t = true then .inr i else readF e ls (i + 1) (acc ++ [t])) with
        | .inl es => _
        | .inr j => _
      by_cases hc : clash acc t = true
      · rw [if_pos hc]
        show i < _
        rw [List.length_cons]
        omega
      · rw [if_neg hc]
        have ih := readF_eb he ls (i + 1) (acc ++ [t]) fun u hu => by
          rcases List.mem_append.mp hu with h1 | h1
          · exact h u h1
          · have : u = t := by simpa using h1
            rw [this]
            exact he l t hl
        cases hr : readF e ls (i + 1) (acc ++ [t]) with
        | inl es =>
          rw [hr] at ih
          refine ⟨ih.1, ?_⟩
          have := ih.2
          simp only [List.length_append, List.length_cons, List.length_nil] at this ⊢
          omega
        | inr j =>
          rw [hr] at ih
          have ih : j < i + 1 + ls.length := ih
          show j < i + (ls.length + 1)
          omega
theorem lines_le {text : PySem.Str} : (linesF text).length ≤ text.length + 2 := by
  unfold linesF
  split
  · simp
  · exact split_count text "\n"
theorem sum_fx (w : Sc p n k) {m : Nat} {text : PySem.Str} (h : text.length ≤ 6000) : ∃ q ww, pyOf S (sumD (readF (entF m n p) (linesF text) 0 [])) = some q ∧ Fx 3 ww q ∧ ww ≤ 400000 ∧ DL.noErr (sumD (readF (entF m n p) (linesF text) 0 [])) = true := by
  have key := readF_eb (e := entF m n p) (fun l t h => entF_eb w h) (linesF text) 0 [] (fun _ h => by cases h)
  have hl := lines_le (text := text)
  cases hr : readF (entF m n p) (linesF text) 0 [] with
  | inl es =>
    rw [hr] at key
    obtain ⟨k1, k2⟩ := key
    have k2 : es.length ≤ 0 + (linesF text).length := k2
    refine ⟨.tuple (es.map entP), _, ?_, fx_entsT k1, by omega, noErr_ents⟩
    show pyOf S (.tup (es.map entD)) = _
    rw [pyOf, pyL_map fun t _ => py_ent]
    rfl
  | inr i =>
    rw [hr] at key
    have key : i < 0 + (linesF text).length := key
    exact ⟨.int (i : Nat), 5, rfl, (Fx.int (k := 4) (by decide) (by decide) (by omega)).mono (by decide) (by decide), by decide, rfl⟩
theorem right_str (w : Sc p n k) {text : PySem.Str} (h : text.length ≤ 6000) : m__law_right G [plan p n k, szD p n k, .str text] S = .ok (.bl true) S := by
  obtain ⟨q, ww, h1, h2, h3, h4⟩ := sum_fx (S := S) w (m := 30) h
  exact right_eq (decided_eq w (by omega)) (ans_str w (by omega)) h4 h1 h2 h3
theorem right_non {d : D} (hi : p_isi [d, .ty "str"] S = .ok (.bl false) S) : m__law_right G [plan p n k, szD p n k, d] S = .ok (.bl true) S := by
  have e1 : m__law_decided G [szD p n k, d] S = .ok (.int (-1)) S := by
    refine eq_wp ?_
    rw [m__law_decided, fnR_eq]
    show wp (ret S (c__law_decided G [some (szD p n k), some d, none, none, none, none] S)) _
    unfold c__law_decided
    push_cast [hi]
    all_goals first | exact ⟨rfl, trivial⟩ | exact ⟨trivial, trivial⟩ | exact trivial | exact ⟨rfl, rfl⟩
  have e2 : m_read_table_text G [plan p n k, d] S = .ex 0 (.int (-1)) S := by
    rw [m_read_table_text, fnR_eq]
    show ret S (c_read_table_text G [some (plan p n k), some d, none, none, none, none] S) = _
    have : c_read_table_text G [some (plan p n k), some d, none, none, none, none] S = .ex 0 (.int (-1)) S := by
      unfold c_read_table_text
      push_cast [hi, Res.bind_ex]
    rw [this]
    exact finX_same
  exact right_eq e1 (.inr e2) rfl (q := .int (-1)) rfl ((Fx.int (k := 1) (by decide) (by decide) (by decide)).mono (by decide) (Nat.le_refl _)) (by decide)
end
end K52
set_option Elab.async false
set_option linter.all false
set_option maxRecDepth 100000
set_option maxHeartbeats 4000000
namespace K52
open PySem PySem.Spec PyProof.Rows L2 DL
/-! ### the text of a table -/
def lineT (t : Int × Int × Int) : PySem.Str := txI t.1 ++ (" " : PySem.Str) ++ txI t.2.1 ++ (" " : PySem.Str) ++ txI t.2.2
def textT (es : List (Int × Int × Int)) : PySem.Str := Txt.join "\n" (es.map lineT)
def EntOk (n p : Int) (t : Int × Int × Int) : Prop := 0 ≤ t.1 ∧ t.1 < t.2.1 ∧ t.2.1 < n ∧ t.2.2 ≠ 0 ∧ 2 * (t.2.2.natAbs : Int) < p
def Asc (es : List (Int × Int × Int)) : Prop := es.Pairwise fun u t => leP t u = false
theorem join3 {a b c y : PySem.Str} : Txt.join y [a, b, c] = a ++ y ++ b ++ y ++ c := by
  rw [TL.join_eq]
  show a ++ y ++ (b ++ y ++ c) = _
  refine tl_ext ?_
  simp only [TL.tl_append, List.append_assoc]
theorem txI_free {c : Nat} (a : Int) (h : c ≠ 45 ∧ (c < 48 ∨ 57 < c)) : c ∉ TL.tl (txI a) := PyProof.Rows.int_text_free' c h a
section
variable {G : Gx} {S : Sto} {p n k : Int}
theorem EntOk.eb (w : Sc p n k) {t : Int × Int × Int} (h : EntOk n p t) : Eb t := by
  obtain ⟨h1, h2, h3, h4, h5⟩ := h
  have := w.n1
  have := w.p1
  exact ⟨by omega, by omega, by omega⟩
theorem txI_le {a : Int} {m : Nat} (hm : 0 < m) (h : a.natAbs < 10 ^ m) : (txI a).length ≤ m + 1 := txI_len hm h
theorem lineT_len {t : Int × Int × Int} (h : Eb t) : (lineT t).length ≤ 19 := by
  have h1 := txI_le (a := t.1) (m := 2) (by decide) (by have := h.1; omega)
  have h2 := txI_le (a := t.2.1) (m := 2) (by decide) (by have := h.2.1; omega)
  have h3 := txI_le (a := t.2.2) (m := 10) (by decide) h.2.2
  have e : ((" " : PySem.Str)).length = 1 := by decide +kernel
  unfold lineT
  rw [PySem.strLen_append, PySem.strLen_append, PySem.strLen_append, PySem.strLen_append, e]
  omega
theorem sum_le {l : List PySem.Str} {m : Nat} (h : ∀ x ∈ l, x.length ≤ m) : (l.map (·.length)).sum ≤ l.length * m := by
  induction l with
  | nil => simp
  | cons x l ih =>
    have h1 := h x List.mem_cons_self
    have h2 := ih fun y hy => h y (List.mem_cons_of_mem _ hy)
    rw [List.map_cons, List.sum_cons, List.length_cons, Nat.succ_mul]
    omega
theorem joinNl {l : List PySem.Str} (h : (l.map (·.length)).sum + l.length ≤ 1000000) (S : Sto) : p_join (.str "\n") [.lst (l.map D.str)] S = .ok (.str (Txt.join "\n" l)) S := by
  have e : ((itemsOf (.lst (l.map D.str)) S).bind (·.mapM strOf)) = some l := by
    show (l.map D.str).mapM strOf = some l
    induction l with
    | nil => rfl
    | cons x l ih =>
      rw [List.map_cons, List.mapM_cons, ih (by simp at h; omega)]
      rfl
  have e1 : (("\n" : PySem.Str)).length = 1 := by decide +kernel
  unfold p_join
  simp only [e]
  rw [if_pos (by rw [e1]; omega)]
theorem joinNlR {l : List PySem.Str} {m : Nat} (hm : S[m]? = some (some (.lst (l.map D.str)))) (h : (l.map (·.length)).sum + l.length ≤ 1000000) : p_join (.str "\n") [.ref m] S = .ok (.str (Txt.join "\n" l)) S := by
  have e : ((itemsOf (.ref m) S).bind (·.mapM strOf)) = some l := by
    rw [items_ref hm]
    show (l.map D.str).mapM strOf = some l
    clear hm
    induction l with
    | nil => rfl
    | cons x l ih =>
      rw [List.map_cons, List.mapM_cons, ih (by simp at h; omega)]
      rfl
  have e1 : (("\n" : PySem.Str)).length = 1 := by decide +kernel
  unfold p_join
  simp only [e]
  rw [if_pos (by rw [e1]; omega)]
theorem lines_fit {es : List (Int × Int × Int)} (hl : es.length ≤ 1000) (h : ∀ t ∈ es, Eb t) : ((es.map lineT).map (·.length)).sum + (es.map lineT).length ≤ 20 * es.length := by
  have := sum_le (l := es.map lineT) (m := 19) fun x hx => by
    obtain ⟨t, ht, rfl⟩ := List.mem_map.mp hx
    exact lineT_len (h t ht)
  rw [List.length_map] at this ⊢
  omega
theorem textT_len {es : List (Int × Int × Int)} (hl : es.length ≤ 1000) (h : ∀ t ∈ es, Eb t) : (textT es).length ≤ 20 * es.length := by
  have h1 := PySem.StrLaws.join_length_le "\n" (es.map lineT)
  have h2 := lines_fit hl h
  have e1 : (("\n" : PySem.Str)).length = 1 := by decide +kernel
  rw [e1] at h1
  unfold textT
  rw [TL.join_eq]
  omega
theorem line_join (t : Int × Int × Int) (h : Eb t) : p_join (.str " ") [.lst [.str (txI t.1), .str (txI t.2.1), .str (txI t.2.2)]] S = .ok (.str (lineT t)) S := by
  have h1 := txI_le (a := t.1) (m := 2) (by decide) (by have := h.1; omega)
  have h2 := txI_le (a := t.2.1) (m := 2) (by decide) (by have := h.2.1; omega)
  have h3 := txI_le (a := t.2.2) (m := 10) (by decide) h.2.2
  have e : ((" " : PySem.Str)).length = 1 := by decide +kernel
  show (if ([txI t.1, txI t.2.1, txI t.2.2].map (·.length)).sum + [txI t.1, txI t.2.1, txI t.2.2].length * ((" " : PySem.Str)).length ≤ 1000000 then Res.ok (D.str (Txt.join " " [txI t.1, txI t.2.1, txI t.2.2])) S else .stuck) = _
  rw [if_pos (by rw [e]; simp; omega), join3]
  rfl
theorem g_ent {t : Int × Int × Int} {a b c : Nat} {ρ : DL.Env} : g_tup 2 (g_cons (g_tup 2 (g_cons (g_name a) (g_cons (g_name b) g_nil))) (g_cons (g_name c) g_nil)) (entD t) ρ S = .ok (((ρ.set a (some (.int t.1))).set b (some (.int t.2.1))).set c (some (.int t.2.2))) S := rfl
theorem table_text_eq {es : List (Int × Int × Int)} (hl : es.length ≤ 1000) (h : ∀ t ∈ es, Eb t) : m_table_text G [.tup (es.map entD)] S = .ok (.str (textT es)) S := by
  refine eq_wp ?_
  rw [m_table_text, fnR_eq]
  show wp (ret S (c_table_text G [some (.tup (es.map entD)), none, none, none] S)) _
  unfold c_table_text
  have hN : ∀ S, isS (.str "\n") S = true := fun _ => rfl
  have hB : ∀ S, isS (.str " ") S = true := fun _ => rfl
  have hlc := lc_eqM (S := S) (ci := c_it (c_var 0)) (g := g_tup 2 (g_cons (g_tup 2 (g_cons (g_name 1) (g_cons (g_name 2) g_nil))) (g_cons (g_name 3) g_nil))) (t := c_yes) (a := c_meth isS p_join (c_d (.str " ")) (c_cons (c_lst false (c_cons (c_cb p_str (c_cons (c_var 1) c_nil)) (c_cons (c_cb p_str (c_cons (c_var 2) c_nil)) (c_cons (c_cb p_str (c_cons (c_var 3) c_nil)) c_nil)))) c_nil)) (own := [1, 2, 3]) (ρ := [some (.tup (es.map entD)), none, none, none]) es entD (fun t => .str (lineT t)) (it_eq (x := .tup (es.map entD)) rfl rfl) (by omega) (ok_one rfl) (fun t ht => by
    have hb := h t ht
    have s1 := str_int (a := t.1) (by have := hb.1; omega) S
    have s2 := str_int (a := t.2.1) (by have := hb.2.1; omega) S
    have s3 := str_int (a := t.2.2) (by have := hb.2.2; omega) S
    have hj := line_join (S := S) t hb
    push_cast [g_ent, hB, s1, s2, s3, hj])
  have hmm : es.map (fun t => D.str (lineT t)) = (es.map lineT).map D.str := by rw [List.map_map]; rfl
  rw [hmm] at hlc
  have hj := joinNl (l := es.map lineT) (by have := lines_fit hl h; omega) S
  push_cast [hN, hlc, hj]
  all_goals first | exact ⟨rfl, trivial⟩ | exact ⟨trivial, trivial⟩ | exact trivial | exact ⟨rfl, rfl⟩
theorem add_str {a b : PySem.Str} (h : a.length + b.length ≤ 1000000) : p_add false (.str a) (.str b) S = .ok (.str (a ++ b)) S := if_pos h
theorem wording_eq {es : List (Int × Int × Int)} (hl : es.length ≤ 1000) (h : ∀ t ∈ es, Eb t) : m__law_wording G [.tup (es.map entD)] S = .ok (.str (textT es)) S := by
  refine eq_wp ?_
  rw [m__law_wording, fnR_eq]
  show wp (ret S (c__law_wording G [some (.tup (es.map entD)), none, none, none, none] S)) _
  unfold c__law_wording
  have hN : ∀ S, isS (.str "\n") S = true := fun _ => rfl
  push_cast [lst_t]
  refine wp_for es entD (fun pre ρ S' => ∃ o2 o3 o4, ρ = [some (.tup (es.map entD)), some (.ref S.length), o2, o3, o4] ∧ S' = S ++ [some (.lst ((pre.map lineT).map D.str))]) (it_eq (x := .tup (es.map entD)) rfl rfl) (fun _ _ _ _ => ok_one rfl) ⟨none, none, none, rfl, rfl⟩ ?_ ?_
  · rintro pre t post ρ S' hl2 ⟨o2, o3, o4, rfl, rfl⟩
    have hb := h t (by rw [hl2]; simp)
    have hpl : pre.length < 1000 := by have := congrArg List.length hl2; simp at this; omega
    have s1 := fun S => str_int (a := t.1) (by have := hb.1; omega) S
    have s2 := fun S => str_int (a := t.2.1) (by have := hb.2.1; omega) S
    have s3 := fun S => str_int (a := t.2.2) (by have := hb.2.2; omega) S
    have l1 := txI_le (a := t.1) (m := 2) (by decide) (by have := hb.1; omega)
    have l2 := txI_le (a := t.2.1) (m := 2) (by decide) (by have := hb.2.1; omega)
    have l3 := txI_le (a := t.2.2) (m := 10) (by decide) hb.2.2
    have e : ((" " : PySem.Str)).length = 1 := by decide +kernel
    have a1 := fun S => add_str (S := S) (a := txI t.1) (b := " ") (by rw [e]; omega)
    have a2 := fun S => add_str (S := S) (a := txI t.1 ++ (" " : PySem.Str)) (b := txI t.2.1) (by rw [PySem.strLen_append, e]; omega)
    have a3 := fun S => add_str (S := S) (a := txI t.1 ++ (" " : PySem.Str) ++ txI t.2.1) (b := " ") (by rw [PySem.strLen_append, PySem.strLen_append, e]; omega)
    have a4 := fun S => add_str (S := S) (a := txI t.1 ++ (" " : PySem.Str) ++ txI t.2.1 ++ (" " : PySem.Str)) (b := txI t.2.2) (by rw [PySem.strLen_append, PySem.strLen_append, PySem.strLen_append, e]; omega)
    have hL : isL (.ref S.length) (S ++ [some (.lst ((pre.map lineT).map D.str))]) = true := isL_ref snoc_at
    have happ := append_ref (n := S.length) (S := S ++ [some (.lst ((pre.map lineT).map D.str))]) (ds := (pre.map lineT).map D.str) (y := .str (lineT t)) snoc_at (by rw [List.length_map, List.length_map]; omega)
    rw [snoc_set] at happ
    have hcat : (pre.map lineT).map D.str ++ [.str (lineT t)] = ((pre ++ [t]).map lineT).map D.str := by rw [List.map_append, List.map_append]; rfl
    rw [hcat] at happ
    have happ : p_append (.ref S.length) [.str (txI t.1 ++ (" " : PySem.Str) ++ txI t.2.1 ++ (" " : PySem.Str) ++ txI t.2.2)] (S ++ [some (.lst ((pre.map lineT).map D.str))]) = _ := happ
    push_cast [g_ent, s1, s2, s3, a1, a2, a3, a4, hL, happ]
    exact ⟨_, _, _, rfl, by first | rfl | trivial⟩
  · rintro ρ S' ⟨o2, o3, o4, rfl, rfl⟩
    have hj := joinNlR (S := S ++ [some (.lst ((es.map lineT).map D.str))]) (m := S.length) (l := es.map lineT) snoc_at (by have := lines_fit hl h; omega)
    push_cast [hN, hj]
    exact wp_fin_app rfl ⟨by first | rfl | trivial, by first | rfl | trivial⟩
/-! ### read back -/
theorem sp_tl : TL.tl (" " : PySem.Str) = 32 :: [] := by decide +kernel
theorem nl_tl : TL.tl ("\n" : PySem.Str) = 10 :: [] := by decide +kernel
theorem entF_line {m : Nat} (hm : 10 ≤ m) (w : Sc p n k) {t : Int × Int × Int} (h : EntOk n p t) : entF m n p (lineT t) = some t := by
  have hb := h.eb w
  have es : Txt.split (lineT t) " " = [txI t.1, txI t.2.1, txI t.2.2] := by
    have := TL.split_join (y := " ") sp_tl (by decide +kernel) (parts := [txI t.1, txI t.2.1, txI t.2.2]) (by simp) (fun q hq => by
      simp only [List.mem_cons, List.not_mem_nil, or_false] at hq
      rcases hq with rfl | rfl | rfl <;> exact txI_free _ (by decide))
    rw [join3] at this
    exact this
  refine entF_intro es (wordI_mono (by decide) hm (word_txI (m := 10) (by decide) ?_)) (wordI_mono (by decide) hm (word_txI (m := 10) (by decide) ?_)) (wordI_mono (by decide) hm (word_txI (m := 10) (by decide) hb.2.2)) h
  · have := hb.1; omega
  · have := hb.2.1; omega
theorem readF_back {e : PySem.Str → Option (Int × Int × Int)} : ∀ (es : List (Int × Int × Int)) (i : Nat) (acc : List (Int × Int × Int)), (∀ t ∈ es, e (lineT t) = some t) → Asc (acc ++ es) → readF e (es.map lineT) i acc = .inl (acc ++ es)
  | [], i, acc, _, _ => by rw [List.append_nil]; rfl
  | t :: es, i, acc, h, ha => by
    rw [List.map_cons, readF.eq_2, h t List.mem_cons_self]
    have hc : clash acc t = false := by
      unfold clash
      cases hl : acc.getLast? with
      | none => rfl
      | some u =>
        have hu : u ∈ acc := List.mem_of_getLast? hl
        exact (List.pairwise_append.mp ha).2.2 u hu t List.mem_cons_self
    show (if clash acc t = true then _ else _) = _
    rw [hc, if_neg Bool.false_ne_true, readF_back es (i + 1) (acc ++ [t]) (fun u hu => h u (List.mem_cons_of_mem _ hu)) (by rw [List.append_assoc]; exact ha), List.append_assoc]
    rfl
theorem lineT_free (t : Int × Int × Int) : 10 ∉ TL.tl (lineT t) := by
  unfold lineT
  simp only [TL.tl_append, List.mem_append, sp_tl, not_or]
  exact ⟨⟨⟨⟨txI_free _ (by decide), by decide⟩, txI_free _ (by decide)⟩, by decide⟩, txI_free _ (by decide)⟩
theorem lines_back (es : List (Int × Int × Int)) : linesF (textT es) = es.map lineT := by
  unfold linesF
  cases es with
  | nil =>
    have : textT [] = ("" : PySem.Str) := by decide +kernel
    rw [if_pos this]
    rfl
  | cons t es =>
    have hsp : Txt.split (textT (t :: es)) "\n" = (t :: es).map lineT := TL.split_join (y := "\n") nl_tl (by decide +kernel) (by simp) (fun q hq => by
      obtain ⟨u, _, rfl⟩ := List.mem_map.mp hq
      exact lineT_free u)
    by_cases he : textT (t :: es) = ("" : PySem.Str)
    · exfalso
      have h1 : tl (textT (t :: es)) = [] := by rw [he, txtE]
      unfold textT at h1
      rw [TL.join_eq, List.map_cons] at h1
      have h2 : tl (lineT t) = [] := by
        cases hm : es.map lineT with
        | nil => rw [hm] at h1; exact h1
        | cons b r =>
          rw [hm] at h1
          have h1 : TL.tl (lineT t ++ ("\n" : PySem.Str) ++ PySem.Str.join "\n" (b :: r)) = [] := h1
          rw [TL.tl_append, TL.tl_append, List.append_assoc] at h1
          exact (List.append_eq_nil_iff.mp h1).1
      have h2 : TL.tl (lineT t) = [] := h2
      unfold lineT at h2
      rw [TL.tl_append, TL.tl_append, TL.tl_append, TL.tl_append, sp_tl] at h2
      simp at h2
    · rw [if_neg he, hsp]
end
end K52
set_option Elab.async false
set_option linter.all false
set_option maxRecDepth 100000
set_option maxHeartbeats 4000000
namespace K52
open PySem PySem.Spec PyProof.Rows L2 DL
/-! ### what is drawn -/
theorem snoc_sm {j : Nat} {A B : Sto} {c : Option Cell} (h2 : 2 ≤ A.length) (h : DkE j B) (s : Sm (A ++ [c]) B) : ∃ A', B = A' ++ [c] ∧ DkE j A' ∧ Sm A A' := by
  have hl : B.length = A.length + 1 := by rw [s.1]; simp
  have hc : B[A.length]? = some c := s.at_ h2 snoc_at
  have e : B = B.take A.length ++ [c] := by
    refine List.ext_getElem? fun i => ?_
    by_cases hi : i < A.length
    · rw [List.getElem?_append_left (by rw [List.length_take]; omega), List.getElem?_take_of_lt hi]
    · by_cases hi2 : i = A.length
      · subst hi2
        rw [hc, List.getElem?_append_right (by rw [List.length_take]; omega), List.length_take, Nat.min_eq_left (by omega), Nat.sub_self]
        rfl
      · rw [List.getElem?_eq_none (by omega), List.getElem?_eq_none (by rw [List.length_append, List.length_take, List.length_singleton]; omega)]
  refine ⟨_, e, ?_, ?_, ?_⟩
  · obtain ⟨T, its, sd, ct, rfl, h⟩ := h
    obtain ⟨m, hm⟩ : ∃ m, A.length = m + 2 := ⟨A.length - 2, by omega⟩
    rw [hm]
    exact ⟨T.take m, its, sd, ct, rfl, h⟩
  · rw [List.length_take]
    omega
  · intro i hi
    by_cases h1 : i < A.length
    · rw [List.getElem?_take_of_lt h1, s.2 i hi, List.getElem?_append_left h1]
    · rw [List.getElem?_eq_none (by rw [List.length_take]; omega), List.getElem?_eq_none (by omega)]
theorem ltL_int {N : Nat} : ∀ l : List Int, refsLtL N (l.map D.int) = true
  | [] => rfl
  | x :: xs => by rw [List.map_cons, refsLtL, refsLt, ltL_int xs]; rfl
theorem wp_fin_snoc {j : Nat} {S A : Sto} {c : Option Cell} {d : D} {Q : D → Sto → Prop} (h : DkE j A) (s : Sm S A) (hd : refsLt S.length d = true) (q : Q d A) : wp (fin S d (A ++ [c])) Q := by
  have hl := h.len
  have h1 := s.1
  refine wp_fin_cut s.1 (fun i x hi => ?_) hd q
  by_cases h2 : 2 ≤ i
  · exact .inl (by rw [← s.2 i h2]; exact hi)
  · obtain ⟨T, its, sd, ct, rfl, _⟩ := h
    right
    obtain rfl | rfl : i = 0 ∨ i = 1 := by omega
    · cases hi
      exact ltL_int its
    · cases hi
      show refsLtL S.length [.ref 0, .int sd, .int ct] = true
      have : decide (0 < S.length) = true := decide_eq_true (by omega)
      simp [refsLtL, refsLt, this]
section
variable {G : Gx} {S : Sto} {p n k : Int}
theorem tuple_ref {m : Nat} {ds : List D} (hm : S[m]? = some (some (.lst ds))) (h : ds.length ≤ 1000000) : p_tuple [.ref m] S = .ok (.tup ds) S := by
  show (match itemsOf (.ref m) S with | some es => p_tup es S | none => .stuck) = _
  rw [items_ref hm]
  exact tup_f h
theorem any_table_wp {j : Nat} (w : Sc p n k) (h : DkE j S) (hn : j < 2 ^ 18) : wp (mp__law_any_table G [.ref 1, szD p n k] S) fun d S' => ∃ es : List (Int × Int × Int), d = .tup (es.map entD) ∧ (∀ t ∈ es, EntOk n p t) ∧ Asc es ∧ es.length ≤ 60 ∧ DkE (j + 2600) S' ∧ Sm S S' := by
  have w0 := w.n0
  have w1 := w.n1
  have wp0 := w.p0
  have wp1 := w.p1
  have wpo := w.po
  have hS := h.len
  have i0 : ∀ S, p_ix (szD p n k) (.int 0) S = .ok (.int p) S := fun _ => rfl
  have i1 : ∀ S, p_ix (szD p n k) (.int 1) S = .ok (.int n) S := fun _ => rfl
  rw [mp__law_any_table, ev_a2, m__law_any_table, fnR_eq]
  show wp (ret S (c__law_any_table G [some (.ref 1), some (szD p n k), none, none, none, none, none, none] S)) _
  unfold c__law_any_table
  obtain ⟨H, hH⟩ : ∃ H : Int, H = p / 2 := ⟨_, rfl⟩
  have hH2 : p = 2 * H + 1 := by omega
  push_cast []
  refine wp_of (random_wp h (by omega) (by omega) (by omega)) ?_
  rintro _ S1 ⟨c, rfl, c0, c1, h1, s1⟩
  have hL : S1.length = S.length := s1.1
  push_cast [i0, lst_t (S := S1) (show ([] : List D).length ≤ 1000000 by simp)]
  rw [← hH]
  refine wp_for (List.range n.toNat) (fun (i : Nat) => D.int (0 + (i : Int))) (fun pre ρ S' => ∃ o5 o6 o7, ρ = [some (.ref 1), some (szD p n k), some (.int (1 + c)), some (.int H), some (.ref S1.length), o5, o6, o7] ∧ ∃ (A : Sto) (acc : List (Int × Int × Int)), S' = A ++ [some (.lst (acc.map entD))] ∧ DkE (j + 1 + 100 * pre.length) A ∧ Sm S A ∧ (∀ t ∈ acc, EntOk n p t ∧ t.1 < (pre.length : Int)) ∧ Asc acc ∧ acc.length ≤ 60) (rng1 (by push_cast [i1]) ⟨by omega, by omega⟩) (fun _ _ _ _ => ok_nil) ⟨none, none, none, rfl, S1, [], rfl, h1, s1, (fun t ht => absurd ht List.not_mem_nil), List.Pairwise.nil, by simp⟩ ?_ ?_
  · rintro pre i post ρ S2 hr ⟨o5, o6, o7, rfl, A, acc, rfl, hA, sA, hacc, hasc, hlen⟩
    obtain ⟨b0, b1, b2⟩ := range_pre hr
    subst b1
    push_cast []
    refine wp_for (List.range (n - (0 + (pre.length : Int) + 1)).toNat) (fun (k : Nat) => D.int (0 + (pre.length : Int) + 1 + (k : Int))) (fun pre2 ρ S' => ∃ o6 o7, ρ = [some (.ref 1), some (szD p n k), some (.int (1 + c)), some (.int H), some (.ref S1.length), some (.int (0 + (pre.length : Int))), o6, o7] ∧ ∃ (A : Sto) (acc : List (Int × Int × Int)), S' = A ++ [some (.lst (acc.map entD))] ∧ DkE (j + 1 + 100 * pre.length + 4 * pre2.length) A ∧ Sm S A ∧ (∀ t ∈ acc, EntOk n p t ∧ (t.1 < (pre.length : Int) ∨ t.1 = (pre.length : Int) ∧ t.2.1 < (pre.length : Int) + 1 + (pre2.length : Int))) ∧ Asc acc ∧ acc.length ≤ 60) (rng2 (by push_cast [i1]) ⟨by omega, by omega⟩ ⟨by omega, by omega⟩) (fun _ _ _ _ => ok_nil) ⟨_, _, rfl, A, acc, rfl, hA, sA, fun t ht => ⟨(hacc t ht).1, .inl (hacc t ht).2⟩, hasc, hlen⟩ ?_ ?_
    · clear hA sA hacc hasc hlen acc A
      rintro pre2 i post2 ρ S2 hr2 ⟨o6, o7, rfl, A, acc, rfl, hA, sA, hacc, hasc, hlen⟩
      obtain ⟨q0, q1, q2⟩ := range_pre hr2
      subst q1
      rw [List.length_append, List.length_singleton]
      have hAl : A.length = S1.length := by rw [sA.1, hL]
      have hA2 : 2 ≤ A.length := by omega
      push_cast []
      refine wp_of (random_wp (hA.app (U := [some (.lst (acc.map entD))])) (by omega) (by omega) (by omega)) ?_
      rintro _ B1 ⟨v1, rfl, v10, v11, hB1, t1⟩
      obtain ⟨A1, rfl, hA1, u1⟩ := snoc_sm hA2 hB1 t1
      push_cast []
      refine wp_of (random_wp (hA1.app (U := [some (.lst (acc.map entD))])) (by omega) (by omega) (by omega)) ?_
      rintro _ B2 ⟨v2, rfl, v20, v21, hB2, t2⟩
      obtain ⟨A2, rfl, hA2', u2⟩ := snoc_sm (by rw [u1.1]; exact hA2) hB2 t2
      push_cast [lst_f (S := A2 ++ [some (.lst (acc.map entD))]) (show ([D.int 1, .int (-1), .int H, .int (0 - H), .int (1 + v1), .int (-1 - v2)]).length ≤ 1000000 by simp)]
      refine wp_of (random_wp (hA2'.app (U := [some (.lst (acc.map entD))])) (by omega) (by omega) (by omega)) ?_
      rintro _ B3 ⟨v3, rfl, v30, v31, hB3, t3⟩
      obtain ⟨A3, rfl, hA3, u3⟩ := snoc_sm (by rw [u2.1, u1.1]; exact hA2) hB3 t3
      have u := (u1.trans u2).trans u3
      have hl3 : A3.length = S1.length := by rw [u.1, hAl]
      have at3 : (A3 ++ [some (.lst (acc.map entD))])[S1.length]? = some (some (.lst (acc.map entD))) := by rw [← hl3]; exact snoc_at
      have skip : ∃ A' acc', A3 ++ [some (.lst (acc.map entD))] = A' ++ [some (Cell.lst (acc'.map entD))] ∧ DkE (j + 1 + 100 * pre.length + 4 * (pre2.length + 1)) A' ∧ Sm S A' ∧ (∀ t ∈ acc', EntOk n p t ∧ (t.1 < (pre.length : Int) ∨ t.1 = (pre.length : Int) ∧ t.2.1 < (pre.length : Int) + 1 + ((pre2.length + 1 : Nat) : Int))) ∧ Asc acc' ∧ acc'.length ≤ 60 :=
        ⟨A3, acc, rfl, hA3.mono (by omega), sA.trans u, fun t ht => ⟨(hacc t ht).1, by have := (hacc t ht).2; omega⟩, hasc, hlen⟩
      by_cases hv3 : v3 < 1 + c
      · have hlr := len_ref at3
        rw [List.length_map] at hlr
        by_cases h60 : (acc.length : Int) < 60
        · push_cast [hv3, hlr, h60, isL_ref at3]
          refine wp_of (choice_wp (l := [1, -1, H, 0 - H, 1 + v1, -1 - v2]) (f := D.int) (hA3.app (U := [some (.lst (acc.map entD))])) (by omega) (by simp) (by simp)) ?_
          rintro _ B4 ⟨x, rfl, hx, hB4, t4⟩
          obtain ⟨A4, rfl, hA4, u4⟩ := snoc_sm (by rw [u.1]; exact hA2) hB4 t4
          have hl4 : A4.length = S1.length := by rw [u4.1, hl3]
          have at4 : (A4 ++ [some (.lst (acc.map entD))])[S1.length]? = some (some (.lst (acc.map entD))) := by rw [← hl4]; exact snoc_at
          have ha := append_ref (y := .tup [.tup [.int (0 + (pre.length : Int)), .int (0 + (pre.length : Int) + 1 + (pre2.length : Int))], .int x]) at4 (by rw [List.length_map]; omega)
          have hset : (A4 ++ [some (Cell.lst (acc.map entD))]).set S1.length (some (.lst (acc.map entD ++ [.tup [.tup [.int (0 + (pre.length : Int)), .int (0 + (pre.length : Int) + 1 + (pre2.length : Int))], .int x]]))) = A4 ++ [some (Cell.lst ((acc ++ [(0 + (pre.length : Int), 0 + (pre.length : Int) + 1 + (pre2.length : Int), x)]).map entD))] := by rw [← hl4, snoc_set, List.map_append]; rfl
          rw [hset] at ha
          push_cast [ha]
          have hx2 : x ≠ 0 ∧ 2 * (x.natAbs : Int) < p := by
            simp only [List.mem_cons, List.not_mem_nil, or_false] at hx
            omega
          refine ⟨_, _, rfl, A4, _, rfl, hA4.mono (by omega), (sA.trans u).trans u4, ?_, ?_, by rw [List.length_append, List.length_singleton]; omega⟩
          · intro t ht
            rcases List.mem_append.mp ht with ht | ht
            · exact ⟨(hacc t ht).1, by have := (hacc t ht).2; omega⟩
            · rw [List.mem_singleton.mp ht]
              exact ⟨⟨by show (0 : Int) ≤ 0 + (pre.length : Int); omega, by show 0 + (pre.length : Int) < 0 + (pre.length : Int) + 1 + (pre2.length : Int); omega, by show 0 + (pre.length : Int) + 1 + (pre2.length : Int) < n; omega, hx2⟩, .inr ⟨by show 0 + (pre.length : Int) = (pre.length : Int); omega, by show 0 + (pre.length : Int) + 1 + (pre2.length : Int) < _; omega⟩⟩
          · refine List.pairwise_append.mpr ⟨hasc, List.pairwise_singleton _ _, fun t ht v hv => ?_⟩
            rw [List.mem_singleton.mp hv]
            unfold leP
            refine decide_eq_false ?_
            have := (hacc t ht).2
            show ¬(0 + (pre.length : Int) < t.1 ∨ 0 + (pre.length : Int) = t.1 ∧ 0 + (pre.length : Int) + 1 + (pre2.length : Int) ≤ t.2.1)
            omega
        · push_cast [hv3, hlr, h60]
          exact ⟨_, _, rfl, skip⟩
      · push_cast [hv3]
        exact ⟨_, _, rfl, skip⟩
    · rintro ρ S2 ⟨o6, o7, rfl, A, acc, rfl, hA, sA, hacc, hasc, hlen⟩
      rw [List.length_range] at hA hacc
      refine ⟨_, _, _, rfl, A, acc, rfl, ?_, sA, ?_, hasc, hlen⟩
      · rw [List.length_append, List.length_singleton]
        exact hA.mono (by omega)
      · intro t ht
        rw [List.length_append, List.length_singleton]
        exact ⟨(hacc t ht).1, by have := (hacc t ht).2; omega⟩
  · rintro ρ S2 ⟨o5, o6, o7, rfl, A, acc, rfl, hA, sA, hacc, hasc, hlen⟩
    rw [List.length_range] at hA
    have hA2 : 2 ≤ A.length := hA.len
    push_cast []
    refine wp_of (random_wp (hA.app (U := [some (.lst (acc.map entD))])) (by omega) (by omega) (by omega)) ?_
    rintro _ B1 ⟨v1, rfl, v10, v11, hB1, t1⟩
    obtain ⟨A1, rfl, hA1, u1⟩ := snoc_sm hA2 hB1 t1
    have sA1 := sA.trans u1
    have at1 : (A1 ++ [some (.lst (acc.map entD))])[S1.length]? = some (some (.lst (acc.map entD))) := by rw [hL, ← sA1.1]; exact snoc_at
    by_cases hv : 0 < v1
    · push_cast [hv, tuple_ref at1 (show (acc.map entD).length ≤ 1000000 by rw [List.length_map]; omega)]
      refine wp_fin_snoc hA1 sA1 (lt_ents acc) ⟨acc, rfl, fun t ht => (hacc t ht).1, hasc, hlen, hA1.mono (by omega), sA1⟩
    · push_cast [hv, tuple_lst (S := A1 ++ [some (.lst (acc.map entD))]) (show ([] : List D).length ≤ 1000000 by simp)]
      refine wp_fin_snoc hA1 sA1 rfl ⟨[], rfl, (fun t ht => absurd ht List.not_mem_nil), List.Pairwise.nil, by simp, hA1.mono (by omega), sA1⟩
end
end K52
set_option Elab.async false
set_option linter.all false
set_option maxRecDepth 100000
set_option maxHeartbeats 4000000
namespace K52
open PySem PySem.Spec PyProof.Rows L2 DL
/-! ### a line that is an entry only by chance -/
theorem wp_fin_dk {j : Nat} {S A : Sto} {T : Sto} {d : D} {Q : D → Sto → Prop} (h : DkE j A) (s : Sm S A) (hd : refsLt S.length d = true) (q : Q d A) : wp (fin S d (A ++ T)) Q := by
  have hl := h.len
  have h1 := s.1
  refine wp_fin_cut s.1 (fun i x hi => ?_) hd q
  by_cases h2 : 2 ≤ i
  · exact .inl (by rw [← s.2 i h2]; exact hi)
  · obtain ⟨T, its, sd, ct, rfl, _⟩ := h
    right
    obtain rfl | rfl : i = 0 ∨ i = 1 := by omega
    · cases hi
      exact ltL_int its
    · cases hi
      show refsLtL S.length [.ref 0, .int sd, .int ct] = true
      have : decide (0 < S.length) = true := decide_eq_true (by omega)
      simp [refsLtL, refsLt, this]
section
variable {G : Gx} {S : Sto} {p n k : Int}
theorem addS {xs ys : List PySem.Str} (h : xs.length + ys.length ≤ 1000000) (S : Sto) : p_add false (.lst (xs.map D.str)) (.lst (ys.map D.str)) S = .ok (.lst ((xs ++ ys).map D.str)) S := by
  rw [add_lst (by rw [List.length_map, List.length_map]; exact h), List.map_append]
theorem addS1 {xs : List PySem.Str} {y : PySem.Str} (h : xs.length + 1 ≤ 1000000) (S : Sto) : p_add false (.lst (xs.map D.str)) (.lst [.str y]) S = .ok (.lst ((xs ++ [y]).map D.str)) S := addS (ys := [y]) h S
/-- what the pieces and their ends come to -/
def wt (l : List PySem.Str) : Nat := (l.map (·.length)).sum + l.length
theorem wt_app (a b : List PySem.Str) : wt (a ++ b) = wt a + wt b := by
  unfold wt
  rw [List.map_append, List.sum_append, List.length_append]
  omega
theorem wt_cons (a : PySem.Str) (b : List PySem.Str) : wt (a :: b) = a.length + 1 + wt b := by
  unfold wt
  rw [List.map_cons, List.sum_cons, List.length_cons]
  omega
theorem wt_len (a : List PySem.Str) : a.length ≤ wt a := Nat.le_add_left _ _
theorem join_wt {y : PySem.Str} (hy : y.length = 1) : ∀ l : List PySem.Str, l ≠ [] → (Txt.join y l).length + 1 = wt l
  | [], h => absurd rfl h
  | [a], _ => by
    rw [TL.join_eq]
    show a.length + 1 = _
    rw [wt_cons]
    rfl
  | a :: b :: r, _ => by
    have ih := join_wt hy (b :: r) (by simp)
    rw [TL.join_eq] at ih ⊢
    have e : PySem.Str.join y (a :: b :: r) = a ++ y ++ PySem.Str.join y (b :: r) := by rw [PySem.Str.join]; exact fun e => by cases e
    rw [e, PySem.strLen_append, PySem.strLen_append, hy, wt_cons, ← ih]
    omega
theorem join_wt_le {y : PySem.Str} (hy : y.length = 1) (l : List PySem.Str) : (Txt.join y l).length ≤ wt l := by
  by_cases h : l = []
  · subst h
    rw [TL.join_eq]
    exact Nat.zero_le _
  · have := join_wt hy l h
    omega
theorem split_ne (x y : PySem.Str) : Txt.split x y ≠ [] := by
  unfold Txt.split
  rw [PySem.StrLaws.partsBetween_eq]
  have main : ∀ c, PySem.StrLaws.partsFrom x y.length 0 c ≠ [] := fun c => by
    obtain ⟨p, r, e⟩ := PySem.StrLaws.partsFrom_ne x y.length 0 c
    rw [e]
    exact List.cons_ne_nil _ _
  repeat' split
  all_goals first | exact main _ | exact List.cons_ne_nil _ _
theorem nl_one : (("\n" : PySem.Str)).length = 1 := by decide +kernel
theorem sp_one : ((" " : PySem.Str)).length = 1 := by decide +kernel
theorem split_wt (x : PySem.Str) : wt (Txt.split x "\n") = x.length + 1 := by
  rw [← join_wt nl_one _ (split_ne x "\n"), TL.join_eq, PySem.StrLaws.join_split]
theorem joinSp {l : List PySem.Str} (h : wt l ≤ 1000000) (S : Sto) : p_join (.str " ") [.lst (l.map D.str)] S = .ok (.str (Txt.join " " l)) S := by
  have e : ((itemsOf (.lst (l.map D.str)) S).bind (·.mapM strOf)) = some l := by
    show (l.map D.str).mapM strOf = some l
    clear h
    induction l with
    | nil => rfl
    | cons x l ih =>
      rw [List.map_cons, List.mapM_cons, ih]
      rfl
  unfold p_join
  simp only [e]
  rw [if_pos (by rw [sp_one]; unfold wt at h; omega)]
def nines : PySem.Str := Txt.mul "9" 25
theorem nines_eq (S : Sto) : p_mulS (.str "9") (.int 25) S = .ok (.str nines) S := rfl
def oddI (n H : Int) : List Int := [0, n - 1 - 1, n - 1, n - 1 + 1, -1, H, H + 1, 0 - H, 0 - H - 1, 1]
def oddC : List PySem.Str := ["-0", "00", "01", "+1", "", "1.0", "x", "1_0", nines]
theorem oddC_le : ∀ x ∈ oddC, x.length ≤ 25 := by decide +kernel
theorem odd_line_wp {j : Nat} (w : Sc p n k) (h : DkE j S) (hn : j < 2 ^ 18) : wp (mp__law_odd_line G [.ref 1, szD p n k] S) fun d S' => ∃ t : PySem.Str, d = .str t ∧ t.length ≤ 104 ∧ DkE (j + 5) S' ∧ Sm S S' := by
  have w0 := w.n0
  have w1 := w.n1
  have wp0 := w.p0
  have wp1 := w.p1
  have wpo := w.po
  have hB : ∀ S, isS (.str " ") S = true := fun _ => rfl
  have i0 : ∀ S, p_ix (szD p n k) (.int 0) S = .ok (.int p) S := fun _ => rfl
  have i1 : ∀ S, p_ix (szD p n k) (.int 1) S = .ok (.int n) S := fun _ => rfl
  rw [mp__law_odd_line, ev_a2, m__law_odd_line, fnR_eq]
  show wp (ret S (c__law_odd_line G [some (.ref 1), some (szD p n k), none, none, none, none, none] S)) _
  unfold c__law_odd_line
  obtain ⟨H, hH⟩ : ∃ H : Int, H = p / 2 := ⟨_, rfl⟩
  have hH2 : p = 2 * H + 1 := by omega
  have hb : ∀ x ∈ oddI n H, x.natAbs < 10 ^ 10 := by
    intro x hx
    simp only [oddI, List.mem_cons, List.not_mem_nil, or_false] at hx
    omega
  have hlc := lc_eqM (S := S) (S1 := S) (ρ := [some (.ref 1), some (szD p n k), some (.int H), some (.int (n - 1)), none, none, none]) (g := g_name 5) (t := c_yes) (a := c_cb p_str (c_cons (c_var 5) c_nil)) (own := [5]) (ci := c_it (c_tup (c_cons (c_d (.int 0)) (c_cons (c_op p_sub (c_var 3) (c_d (.int 1))) (c_cons (c_var 3) (c_cons (c_op (p_add false) (c_var 3) (c_d (.int 1))) (c_cons (c_un p_neg (c_d (.int 1))) (c_cons (c_var 2) (c_cons (c_op (p_add false) (c_var 2) (c_d (.int 1))) (c_cons (c_op p_sub (c_d (.int 0)) (c_var 2)) (c_cons (c_op p_sub (c_op p_sub (c_d (.int 0)) (c_var 2)) (c_d (.int 1))) (c_cons (c_d (.int 1)) c_nil)))))))))))) (oddI n H) D.int (fun x => D.str (txI x)) (it_eq (x := .tup ((oddI n H).map D.int)) rfl rfl) (by simp [oddI]) (ok_one rfl) (fun x hx => by
    have hs := str_int (a := x) (by have := hb x hx; omega) S
    push_cast [hs])
  have hmm : (oddI n H).map (fun x => D.str (txI x)) = ((oddI n H).map txI).map D.str := by rw [List.map_map]; rfl
  rw [hmm] at hlc
  have hW : ∀ x ∈ (oddI n H).map txI ++ oddC, x.length ≤ 25 := by
    intro x hx
    rcases List.mem_append.mp hx with hx | hx
    · obtain ⟨y, hy, rfl⟩ := List.mem_map.mp hx
      have := txI_le (a := y) (m := 10) (by decide) (hb y hy)
      omega
    · exact oddC_le x hx
  have ha : p_add false (.lst (((oddI n H).map txI).map D.str)) (.lst [.str "-0", .str "00", .str "01", .str "+1", .str "", .str "1.0", .str "x", .str "1_0", .str nines]) S = .ok (.lst (((oddI n H).map txI ++ oddC).map D.str)) S := addS (ys := oddC) (by simp [oddI, oddC]) S
  generalize hWs : (oddI n H).map txI ++ oddC = W at hW ha
  have hWl : W.length = 19 := by rw [← hWs]; rfl
  have hWn : W ≠ [] := fun z => by rw [z] at hWl; cases hWl
  push_cast [i0, i1]
  rw [← hH]
  push_cast [hB, hlc, nines_eq, lst_f (S := S) (show ([D.str "-0", .str "00", .str "01", .str "+1", .str "", .str "1.0", .str "x", .str "1_0", .str nines]).length ≤ 1000000 by simp), ha]
  obtain ⟨_, S1, e1, c, rfl, hc, h1, s1⟩ := wp_ex (choice_wp (G := G) (l := [3, 3, 3, 3, 2, 4]) (f := D.int) h (by omega) (by simp) (by simp))
  have hc2 : 0 ≤ c ∧ c ≤ 4 := by
    simp only [List.mem_cons, List.not_mem_nil, or_false] at hc
    omega
  have hci : ∀ {o5 o6 : Option D}, c_rng1 (c_cons (c_cb (mp__law_choice G) (c_cons (c_var 0) (c_cons (c_lst false (c_cons (c_d (.int 3)) (c_cons (c_d (.int 3)) (c_cons (c_d (.int 3)) (c_cons (c_d (.int 3)) (c_cons (c_d (.int 2)) (c_cons (c_d (.int 4)) c_nil))))))) c_nil))) c_nil) [some (.ref 1), some (szD p n k), some (.int H), some (.int (n - 1)), some (.lst (W.map D.str)), o5, o6] S = .ok ⟨(List.range c.toNat).map fun (i : Nat) => D.int (0 + (i : Int)), []⟩ S1 := fun {o5 o6} => rng1_eq (j := c) (by push_cast [lst_f (S := S) (show ([D.int 3, .int 3, .int 3, .int 3, .int 2, .int 4]).length ≤ 1000000 by simp)]; push_cast [List.map_cons, List.map_nil] at e1; push_cast [e1]) ⟨by omega, by omega⟩
  refine wp_lc (List.range c.toNat) (fun (i : Nat) => D.int (0 + (i : Int))) (fun pre S' ys => DkE (j + 1 + pre.length) S' ∧ Sm S S' ∧ ∃ ts : List PySem.Str, ys = ts.map D.str ∧ ts.length = pre.length ∧ ∀ x ∈ ts, x.length ≤ 25) hci (by rw [List.length_range]; omega) (fun _ _ _ _ => ok_nil) ⟨h1, s1, [], rfl, rfl, fun x hx => absurd hx List.not_mem_nil⟩ ?_ ?_
  · rintro pre i post S' ys hr ⟨hd, hs, ts, rfl, hl, hv⟩
    obtain ⟨b0, b1, b2⟩ := range_pre hr
    rw [List.length_append, List.length_singleton]
    push_cast []
    refine wp_of (choice_wp (G := G) (l := W) (f := D.str) hd (by omega) hWn (by omega)) ?_
    rintro _ S2 ⟨x, rfl, hx, h2, s2⟩
    push_cast []
    refine ⟨h2.mono (by omega), hs.trans s2, ts ++ [x], ?_, by rw [List.length_append, List.length_singleton, hl], fun y hy => ?_⟩
    · show ts.map D.str ++ [D.str x] = _
      rw [List.map_append]
      rfl
    · rcases List.mem_append.mp hy with hy | hy
      · exact hv y hy
      · rw [List.mem_singleton.mp hy]
        exact hW x hx
  · rintro ys S' ⟨hd, hs, ts, rfl, hl, hv⟩
    rw [List.length_range] at hl hd
    have hsum := sum_le hv
    have hwt : wt ts ≤ 104 := by unfold wt; omega
    have hj := joinSp (l := ts) (by omega) S'
    push_cast [hj]
    have := join_wt_le sp_one ts
    refine wp_fin_len hs.1 ⟨_, rfl, by omega, hd.mono (by omega), hs⟩
end
end K52
set_option Elab.async false
set_option linter.all false
set_option maxRecDepth 100000
set_option maxHeartbeats 4000000
namespace K52
open PySem PySem.Spec PyProof.Rows L2 DL
/-! ### a text with one change -/
section
variable {G : Gx} {S : Sto} {p n k : Int}
theorem snoc2_sm {j : Nat} {A B : Sto} {c1 c2 : Option Cell} (h2 : 2 ≤ A.length) (h : DkE j B) (s : Sm (A ++ [c1, c2]) B) : ∃ A', B = A' ++ [c1, c2] ∧ DkE j A' ∧ Sm A A' := by
  have e : A ++ [c1, c2] = (A ++ [c1]) ++ [c2] := by rw [List.append_assoc]; rfl
  rw [e] at s
  obtain ⟨B', rfl, h', s'⟩ := snoc_sm (by rw [List.length_append]; omega) h s
  obtain ⟨A', rfl, h'', s''⟩ := snoc_sm h2 h' s'
  exact ⟨A', by rw [List.append_assoc]; rfl, h'', s''⟩
theorem cutL_take {ls : List PySem.Str} {m : Int} (h : 0 ≤ m) (hl : ls.length ≤ 1000000) (S : Sto) : p_sl false (.lst (ls.map D.str)) none (some m) S = .ok (.lst ((ls.take m.toNat).map D.str)) S := by
  show p_lst false (DL.cutD (ls.map D.str) none (some m)) S = _
  have e : DL.cutD (ls.map D.str) none (some m) = (ls.take m.toNat).map D.str := by
    obtain ⟨i, rfl⟩ := Int.eq_ofNat_of_zero_le h
    unfold DL.cutD
    rw [HT.sIx_none, HT.sIx_nat, List.map_take, Int.toNat_natCast, Nat.sub_zero, List.drop_zero, List.length_map]
    rw [← List.map_take, ← List.map_take]
    congr 1
    by_cases hi : i ≤ ls.length
    · rw [Nat.min_eq_left hi]
    · rw [Nat.min_eq_right (by omega), List.take_of_length_le (Nat.le_refl _), List.take_of_length_le (by omega)]
  rw [e, lst_f (by rw [List.length_map, List.length_take]; omega)]
theorem cutL_drop {ls : List PySem.Str} {m : Int} (h : 0 ≤ m) (hl : ls.length ≤ 1000000) (S : Sto) : p_sl false (.lst (ls.map D.str)) (some m) none S = .ok (.lst ((ls.drop m.toNat).map D.str)) S := by
  show p_lst false (DL.cutD (ls.map D.str) (some m) none) S = _
  have e : DL.cutD (ls.map D.str) (some m) none = (ls.drop m.toNat).map D.str := by
    obtain ⟨i, rfl⟩ := Int.eq_ofNat_of_zero_le h
    unfold DL.cutD
    rw [HT.sIx_none, HT.sIx_nat, Int.toNat_natCast, List.map_drop, List.length_map]
    by_cases hi : i ≤ ls.length
    · rw [Nat.min_eq_left hi, List.take_of_length_le (by rw [List.length_drop, List.length_map]; omega)]
    · rw [Nat.min_eq_right (by omega), List.drop_of_length_le (by rw [List.length_map]; omega), List.drop_of_length_le (by rw [List.length_map]; omega), List.take_nil]
  rw [e, lst_f (by rw [List.length_map, List.length_drop]; omega)]
theorem wt_take (ls : List PySem.Str) (i : Nat) : wt (ls.take i) + wt (ls.drop i) = wt ls := by
  rw [← wt_app, List.take_append_drop]
theorem cutL_mid {ls : List PySem.Str} {a b : Int} (hl : ls.length ≤ 1000000) (S : Sto) : ∃ M, p_sl false (.lst (ls.map D.str)) (some a) (some b) S = .ok (.lst (M.map D.str)) S ∧ wt M ≤ wt ls ∧ M.length ≤ ls.length := by
  refine ⟨(ls.drop (HT.sIx ls.length 0 (some a))).take (HT.sIx ls.length ls.length (some b) - HT.sIx ls.length 0 (some a)), ?_, ?_, ?_⟩
  · show p_lst false (DL.cutD (ls.map D.str) (some a) (some b)) S = _
    unfold DL.cutD
    rw [List.length_map, ← List.map_drop, ← List.map_take, lst_f (by rw [List.length_map, List.length_take, List.length_drop]; omega)]
  · have h1 := wt_take ls (HT.sIx ls.length 0 (some a))
    have h2 := wt_take (ls.drop (HT.sIx ls.length 0 (some a))) (HT.sIx ls.length ls.length (some b) - HT.sIx ls.length 0 (some a))
    omega
  · rw [List.length_take, List.length_drop]
    omega
theorem ix_L {ls : List PySem.Str} {b : Int} (h0 : 0 ≤ b) (h1 : b < (ls.length : Int)) : ∃ o, (∀ S, p_ix (.lst (ls.map D.str)) (.int b) S = .ok (.str o) S) ∧ o.length + 1 ≤ wt ls := by
  have hb : b.toNat < ls.length := by omega
  refine ⟨ls[b.toNat], fun S => ix_lst h0 (by rw [List.getElem?_map, List.getElem?_eq_getElem hb]; rfl), ?_⟩
  have h := wt_take ls b.toNat
  rw [List.drop_eq_getElem_cons hb, wt_cons] at h
  omega
def sgX : PySem.Str := "0123456789- \n+x"
def sgL : List PySem.Str := sgX.cps.toList.map fun c => ⟨#[c]⟩
theorem sgL_eq (S : Sto) : p_listS false [.str "0123456789- \n+x"] S = .ok (.lst (sgL.map D.str)) S := by
  have e : sgX.cps.toList.map DL.signD = sgL.map D.str := by
    unfold sgL
    rw [List.map_map]
    rfl
  have hl : sgX.length ≤ 1000000 := by decide +kernel
  show (if sgX.length ≤ 1000000 then p_lst false (sgX.cps.toList.map DL.signD) S else .stuck) = _
  rw [if_pos hl, e, lst_f (by decide +kernel)]
theorem sgL_le : ∀ x ∈ sgL, x.length ≤ 1 := by decide +kernel
theorem sgL_ne : sgL ≠ [] := by decide +kernel
theorem sgL_len : sgL.length ≤ 1000000 := by decide +kernel
theorem mk_take {w : PySem.Str} {i : Nat} : (mk ((tl w).take i)).length ≤ w.length := by
  rw [tl_len, tl_mk, tl_len w, List.length_take]
  omega
theorem mk_drop {w : PySem.Str} {i : Nat} : (mk ((tl w).drop i)).length ≤ w.length := by
  rw [tl_len, tl_mk, tl_len w, List.length_drop]
  omega
theorem bent_wp {j : Nat} (w : Sc p n k) (h : DkE j S) (hn : j < 2 ^ 17) {text : PySem.Str} (ht : text.length ≤ 10000) : wp (mp__law_bent G [.ref 1, szD p n k, .str text] S) fun d S' => ∃ t : PySem.Str, d = .str t ∧ t.length ≤ 2 * text.length + 108 ∧ DkE (j + 12) S' ∧ Sm S S' := by
  have hN : ∀ S, isS (.str "\n") S = true := fun _ => rfl
  have hT : ∀ S, isS (.str text) S = true := fun _ => rfl
  rw [mp__law_bent, ev_a3, m__law_bent, fnR_eq]
  show wp (ret S (c__law_bent G [some (.ref 1), some (szD p n k), some (.str text), none, none, none, none, none, none, none] S)) _
  unfold c__law_bent
  have hsp := splitNl (x := text) (by omega)
  have hwl := split_wt text
  have hne := List.length_pos_iff.mpr (split_ne text "\n")
  generalize Txt.split text "\n" = ls at hsp hwl hne
  have hl := wt_len ls
  have hlen : ∀ S, p_len [.lst (ls.map D.str)] S = .ok (.int (ls.length : Nat)) S := fun S => by
    show Res.ok (D.int ((ls.map D.str).length : Nat)) S = _
    rw [List.length_map]
  push_cast [hT, hsp, hlen]
  refine wp_of (random_wp h (by omega) (by omega) (by omega)) ?_
  rintro _ S1 ⟨a, rfl, a0, a1, h1, s1⟩
  push_cast [hlen]
  refine wp_of (random_wp h1 (by omega) (by omega) (by omega)) ?_
  rintro _ S2 ⟨b, rfl, b0, b1, h2, s2⟩
  push_cast []
  refine wp_of (odd_line_wp w h2 (by omega)) ?_
  rintro _ S3 ⟨odd, rfl, ho, h3, s3⟩
  push_cast []
  refine wp_of (random_wp h3 (by omega) (by omega) (by omega)) ?_
  rintro _ S4 ⟨v, rfl, v0, v1, h4, s4⟩
  have ss := ((s1.trans s2).trans s3).trans s4
  obtain ⟨M, hM, wM, lM⟩ := cutL_mid (ls := ls) (a := a) (b := a + 1) (by omega) S4
  obtain ⟨oth, hO, wO⟩ := ix_L (ls := ls) b0 (by omega)
  have cT := cutL_take (ls := ls) (m := a) a0 (by omega)
  have cD := cutL_drop (ls := ls) (m := a) a0 (by omega)
  have cD1 := cutL_drop (ls := ls) (m := a + 1) (by omega) (by omega)
  have w1 := wt_take ls a.toNat
  have w2 : wt (ls.drop (a + 1).toNat) ≤ wt (ls.drop a.toNat) := by
    have := wt_take (ls.drop a.toNat) 1
    rw [List.drop_drop, show a.toNat + 1 = (a + 1).toNat by omega] at this
    omega
  generalize ls.take a.toNat = T at cT w1
  generalize ls.drop a.toNat = D0 at cD w1 w2
  generalize ls.drop (a + 1).toNat = D1 at cD1 w2
  have lT := wt_len T
  have lD := wt_len D0
  have lD1 := wt_len D1
  have p0 := addS (xs := T) (ys := D1) (by omega)
  have p1 := addS (xs := T) (ys := M) (by omega)
  have p2 := addS (xs := T ++ M) (ys := D0) (by rw [List.length_append]; omega)
  have p3 := addS1 (xs := ls) (y := odd) (by omega)
  have p4 := addS1 (xs := ls) (y := ("" : PySem.Str)) (by omega)
  have p5 := addS1 (xs := T) (y := odd) (by omega)
  have p6 := addS (xs := T ++ [odd]) (ys := D1) (by rw [List.length_append, List.length_singleton]; omega)
  have p7 := addS (xs := T ++ [odd]) (ys := D0) (by rw [List.length_append, List.length_singleton]; omega)
  have p8 := addS1 (xs := T) (y := oth) (by omega)
  have p9 := addS (xs := T ++ [oth]) (ys := D1) (by rw [List.length_append, List.length_singleton]; omega)
  have l1 : ∀ (x : D) (S : Sto), p_lst false [x] S = .ok (.lst [x]) S := fun _ _ => rfl
  have l2 : ∀ (x y : D) (S : Sto), p_lst false [x, y] S = .ok (.lst [x, y]) S := fun _ _ _ => rfl
  obtain ⟨LL, hLL⟩ : ∃ LL : List (List PySem.Str), LL = [T ++ D1, T ++ M ++ D0, ls ++ [odd], ls ++ [("" : PySem.Str)], T ++ [odd] ++ D1, T ++ [odd] ++ D0, T ++ [oth] ++ D1] := ⟨_, rfl⟩
  have hwt : ∀ x ∈ LL, wt x ≤ 2 * text.length + 108 := by
    intro x hx
    have e1 : wt [odd] = odd.length + 1 := rfl
    have e2 : wt [oth] = oth.length + 1 := rfl
    have e3 : wt [("" : PySem.Str)] = 1 := rfl
    rw [hLL] at hx
    simp only [List.mem_cons, List.not_mem_nil, or_false] at hx
    rcases hx with rfl | rfl | rfl | rfl | rfl | rfl | rfl <;> simp only [wt_app, e1, e2, e3] <;> omega
  have hLd : [D.lst ((T ++ D1).map D.str), .lst ((T ++ M ++ D0).map D.str), .lst ((ls ++ [odd]).map D.str), .lst ((ls ++ [("" : PySem.Str)]).map D.str), .lst ((T ++ [odd] ++ D1).map D.str), .lst ((T ++ [odd] ++ D0).map D.str), .lst ((T ++ [oth] ++ D1).map D.str)] = LL.map fun x => D.lst (x.map D.str) := by rw [hLL]; rfl
  have hLn : LL.length = 7 := by rw [hLL]; rfl
  clear hLL
  generalize D.lst ((T ++ D1).map D.str) = X0 at p0 hLd
  generalize D.lst ((T ++ M ++ D0).map D.str) = X1 at p2 hLd
  generalize D.lst ((ls ++ [odd]).map D.str) = X2 at p3 hLd
  generalize D.lst ((ls ++ [("" : PySem.Str)]).map D.str) = X3 at p4 hLd
  generalize D.lst ((T ++ [odd] ++ D1).map D.str) = X4 at p6 hLd
  generalize D.lst ((T ++ [odd] ++ D0).map D.str) = X5 at p7 hLd
  generalize D.lst ((T ++ [oth] ++ D1).map D.str) = X6 at p9 hLd
  have c4 : ∀ (x y z u : D) (S : Sto), p_lst true [x, y, z, u] S = .ok (.ref S.length) (S ++ [some (.lst [x, y, z, u])]) := fun _ _ _ _ S => rfl
  have hadd : p_add true (.ref S4.length) (.lst [X4, X5]) (S4 ++ [some (.lst [X0, X1, X2, X3])]) = .ok (.ref (S4.length + 1)) (S4 ++ [some (.lst [X0, X1, X2, X3]), some (.lst [X0, X1, X2, X3, X4, X5])]) := by
    show DL.p_addL true _ _ _ = _
    unfold DL.p_addL
    have e : DL.lstOf (.ref S4.length) (S4 ++ [some (.lst [X0, X1, X2, X3])]) = some [X0, X1, X2, X3] := by
      have := snoc_at (S := S4) (c := some (.lst [X0, X1, X2, X3]))
      simp only [DL.lstOf, this]
    rw [e]
    show p_lst true [_, _, _, _, _, _] _ = _
    rw [lst_t (by simp), List.length_append, List.length_singleton, List.append_assoc]
    rfl
  have happ := append_ref (n := S4.length + 1) (S := S4 ++ [some (.lst [X0, X1, X2, X3]), some (.lst [X0, X1, X2, X3, X4, X5])]) (y := X6) snoc_at1 (by simp)
  rw [snoc_set1] at happ
  have happ : p_append (.ref (S4.length + 1)) [X6] (S4 ++ [some (.lst [X0, X1, X2, X3]), some (.lst [X0, X1, X2, X3, X4, X5])]) = .ok .non (S4 ++ [some (.lst [X0, X1, X2, X3]), some (.lst [X0, X1, X2, X3, X4, X5, X6])]) := happ
  have hisL : isL (.ref (S4.length + 1)) (S4 ++ [some (.lst [X0, X1, X2, X3]), some (.lst [X0, X1, X2, X3, X4, X5])]) = true := isL_ref snoc_at1
  push_cast [cT, cD, cD1, hM, p0, p1, p2, p3, p4, p5, p6, p7, p8, p9, l1, l2, c4, hadd, happ, hisL, hO]
  by_cases hv : v < 7
  · have hix : ∃ r, p_ix (.ref (S4.length + 1)) (.int v) (S4 ++ [some (.lst [X0, X1, X2, X3]), some (.lst [X0, X1, X2, X3, X4, X5, X6])]) = .ok (.lst (r.map D.str)) (S4 ++ [some (.lst [X0, X1, X2, X3]), some (.lst [X0, X1, X2, X3, X4, X5, X6])]) ∧ wt r ≤ 2 * text.length + 108 := by
      have hv7 : v.toNat < LL.length := by omega
      refine ⟨LL[v.toNat], ?_, hwt _ (List.getElem_mem _)⟩
      refine ix_ref (ds := [X0, X1, X2, X3, X4, X5, X6]) snoc_at1 ?_
      rw [hLd]
      exact atD_nn v0 (by rw [List.getElem?_map, List.getElem?_eq_getElem hv7]; rfl)
    obtain ⟨r, hix, hr⟩ := hix
    have hj := joinNl (l := r) (by unfold wt at hr; omega) (S4 ++ [some (.lst [X0, X1, X2, X3]), some (.lst [X0, X1, X2, X3, X4, X5, X6])])
    push_cast [hv, hix, hN, hj]
    have := join_wt_le nl_one r
    exact wp_fin_dk h4 ss rfl ⟨_, rfl, by omega, h4.mono (by omega), ss⟩
  · have hlt := lenS (w := text) (by omega) (S4 ++ [some (.lst [X0, X1, X2, X3]), some (.lst [X0, X1, X2, X3, X4, X5, X6])])
    have hS4 := h4.len
    push_cast [hv, hlt]
    refine wp_of (random_wp (h4.app (U := [some (.lst [X0, X1, X2, X3]), some (.lst [X0, X1, X2, X3, X4, X5, X6])])) (by omega) (by omega) (by omega)) ?_
    rintro _ B5 ⟨q, rfl, q0, q1, hB5, t5⟩
    obtain ⟨A5, rfl, hA5, u5⟩ := snoc2_sm hS4 hB5 t5
    push_cast [sgL_eq]
    refine wp_of (choice_wp (l := sgL) (f := D.str) hB5 (by omega) sgL_ne sgL_len) ?_
    rintro _ B6 ⟨sg, rfl, hsg, hB6, t6⟩
    have hA5l := hA5.len
    obtain ⟨A6, rfl, hA6, u6⟩ := snoc2_sm hA5l hB6 t6
    have hA6l := hA6.len
    obtain ⟨i, rfl⟩ := Int.eq_ofNat_of_zero_le q0
    have hs1 := fun S => sl_to (b := false) (w := text) (k := i) (by omega) S
    have hix : ∃ e : PySem.Str, e.length ≤ 1 ∧ ∀ S, p_ix (.lst [.str sg, .str ""]) (.int (v - 7)) S = .ok (.str e) S := by
      have h1 := sgL_le sg hsg
      obtain h | h : v = 7 ∨ v = 8 := by omega
      · subst h
        exact ⟨sg, h1, fun _ => rfl⟩
      · subst h
        exact ⟨"", by decide +kernel, fun _ => rfl⟩
    obtain ⟨e, he, hix⟩ := hix
    have m1 := mk_take (w := text) (i := i)
    have hadd1 := fun S => add_str (S := S) (a := mk ((tl text).take i)) (b := e) (by omega)
    push_cast [hs1, l2, hix, hadd1]
    refine wp_of (random_wp hB6 (by omega) (by omega) (by omega)) ?_
    rintro _ B7 ⟨r, rfl, r0, r1, hB7, t7⟩
    obtain ⟨A7, rfl, hA7, u7⟩ := snoc2_sm hA6l hB7 t7
    obtain ⟨r, rfl⟩ := Int.eq_ofNat_of_zero_le r0
    have hs2 : ∀ S, p_sl false (.str text) (some ((i : Int) + (r : Int))) none S = .ok (.str (mk ((tl text).drop (i + r)))) S := fun S => sl_from (b := false) (w := text) (k := i + r) (by omega) S
    have m2 := mk_drop (w := text) (i := i + r)
    have hadd2 := fun S => add_str (S := S) (a := mk ((tl text).take i) ++ e) (b := mk ((tl text).drop (i + r))) (by rw [PySem.strLen_append]; omega)
    push_cast [hs2, hadd2]
    have sf := ((ss.trans u5).trans u6).trans u7
    exact wp_fin_dk hA7 sf rfl ⟨_, rfl, by rw [PySem.strLen_append, PySem.strLen_append]; omega, hA7.mono (by omega), sf⟩
end
end K52
set_option Elab.async false
set_option linter.all false
set_option maxRecDepth 100000
set_option maxHeartbeats 4000000
namespace K52
open PySem PySem.Spec PyProof.Rows L2 DL
/-! ### texts of texts -/
open PySem.Builtin.Str in
theorem reprChar_ok {q c : Nat} (hc : c < 0x110000) : ∀ d ∈ reprChar q c, d < 0x110000 := by
  have hx : ∀ w : Nat, ∀ d ∈ List.replicate (w - ((Nat.toDigits 16 c).map Char.toNat).length) 48 ++ (Nat.toDigits 16 c).map Char.toNat, d < 0x110000 := fun w d hd => by
    rcases List.mem_append.mp hd with hd | hd
    · rw [(List.mem_replicate.mp hd).2]
      decide
    · obtain ⟨z, _, rfl⟩ := List.mem_map.mp hd
      have := z.valid
      show z.val.toNat < _
      rcases this with h | h
      · have : z.val.toNat < 0xd800 := h
        omega
      · exact h.2
  intro d hd
  unfold reprChar at hd
  dsimp only at hd
  repeat' split at hd
  all_goals first
    | (simp only [List.mem_cons, List.not_mem_nil, or_false] at hd; omega)
    | (rcases List.mem_append.mp hd with hd | hd
       · simp only [List.mem_cons, List.not_mem_nil, or_false] at hd; omega
       · exact hx _ d hd)
theorem sOk_repr {x : PySem.Str} (h : PyData.strOk x = true) : PyData.strOk (PySem.reprText x) = true := by
  have hq : PySem.reprQuote x < 0x110000 := by
    unfold PySem.reprQuote
    split <;> decide
  have key : ∀ (l : List Nat) (acc : Array Nat), (∀ c ∈ l, c < 0x110000) → (∀ c ∈ acc.toList, c < 0x110000) → ∀ c ∈ (l.foldl (fun out c => out ++ (PySem.Builtin.Str.reprChar (PySem.reprQuote x) c).toArray) acc).toList, c < 0x110000 := by
    intro l
    induction l with
    | nil => exact fun acc _ h => h
    | cons c l ih =>
      intro acc hl ha
      rw [List.foldl_cons]
      refine ih _ (fun d hd => hl d (List.mem_cons_of_mem _ hd)) fun d hd => ?_
      rw [Array.toList_append] at hd
      rcases List.mem_append.mp hd with hd | hd
      · exact ha d hd
      · exact reprChar_ok (hl c List.mem_cons_self) d hd
  have hx : ∀ c ∈ x.cps.toList, c < 0x110000 := fun c hc => by
    have := Array.all_eq_true_iff_forall_mem.mp h c (Array.mem_toList_iff.mp hc)
    simpa using this
  refine Array.all_eq_true_iff_forall_mem.mpr fun c hc => ?_
  have hc : c ∈ ((x.cps.foldl (fun out c => out ++ (PySem.Builtin.Str.reprChar (PySem.reprQuote x) c).toArray) #[PySem.reprQuote x]).push (PySem.reprQuote x)) := hc
  rw [Array.mem_push] at hc
  refine decide_eq_true ?_
  rcases hc with hc | hc
  · rw [← Array.foldl_toList] at hc
    exact key _ _ hx (fun d hd => by
      have : d = PySem.reprQuote x := by simpa using hd
      rw [this]
      exact hq) c (Array.mem_toList_iff.mpr hc)
  · rw [hc]
    exact hq
theorem fx_str {x : PySem.Str} {w : Nat} (h : PyData.strOk x = true) (hl : x.length ≤ w) : Fx 0 (10 * w + 2) (.str x) := by
  have hs : ∀ c ∈ x.cps.toList, c < 16 ^ 8 := fun c hc => by
    have := Array.all_eq_true_iff_forall_mem.mp h c (Array.mem_toList_iff.mp hc)
    have h2 : c < 0x110000 := by simpa using this
    have e : (16 : Nat) ^ 8 = 4294967296 := by decide
    omega
  refine ⟨h, rfl, rfl, Nat.le_refl _, ?_, ?_⟩
  · rw [PyData.shown_str]
    have := PySem.StrLaws.reprText_len x hs
    omega
  · rw [PyData.shown_str]
    exact sOk_repr h
/-! ### the law -/
section
variable {G : Gx} {S : Sto} {p n k : Int}
theorem textT_ok (es : List (Int × Int × Int)) : PyData.strOk (textT es) = true := by
  have e1 : PyData.strOk (" " : PySem.Str) = true := by decide +kernel
  have e2 : PyData.strOk ("\n" : PySem.Str) = true := by decide +kernel
  unfold textT
  rw [TL.join_eq]
  refine sOk_join _ e2 _ fun t ht => ?_
  obtain ⟨x, hx, rfl⟩ := List.mem_map.mp ht
  unfold lineT
  exact sOk_app (sOk_app (sOk_app (sOk_app (sOk_of _) e1) (sOk_of _)) e1) (sOk_of _)
theorem repr_two {x : PySem.Str} (h : PyData.strOk x = true) (hl : x.length ≤ 1300) : ∃ X : PySem.Str, (∀ S : Sto, p_repr [.lst [.str x, .str x]] S = .ok (.str X) S) ∧ PyData.strOk X = true := by
  have hF : Fx 1 (2 * 13004 + 2) (.list [.str x, .str x]) := Fx.list (d := 0) (w := 13002) (ps := [.str x, .str x]) fun q hq => by
    simp only [List.mem_cons, List.not_mem_nil, or_false] at hq
    rcases hq with rfl | rfl <;> exact fx_str h hl
  exact ⟨_, fun S => repr_x (S := S) (p := .list [.str x, .str x]) rfl hF rfl (by decide) (by decide), hF.ok⟩
theorem repr_ents {es : List (Int × Int × Int)} (h : ∀ t ∈ es, Eb t) (hl : es.length ≤ 60) : ∃ X : PySem.Str, (∀ S : Sto, p_repr [.tup (es.map entD)] S = .ok (.str X) S) ∧ PyData.strOk X = true := by
  have hF := fx_entsT h
  refine ⟨_, fun S => repr_x (S := S) (p := .tuple (es.map entP)) ?_ hF rfl (by decide) (by omega), hF.ok⟩
  rw [pyOf, pyL_map fun t _ => py_ent]
  rfl
theorem heard_back (w : Sc p n k) {es : List (Int × Int × Int)} (h : ∀ t ∈ es, EntOk n p t) (ha : Asc es) (hl : es.length ≤ 60) {b : Bool} (S : Sto) : m__law_heard G [plan p n k, .str (textT es), .bl b] S = .ok (.tup (es.map entD)) S := by
  have hb : ∀ t ∈ es, Eb t := fun t ht => (h t ht).eb w
  have ht := textT_len (by omega) hb
  have hans := ans_str (G := G) (S := S) w (text := textT es) (by omega)
  have e : readF (entF 30 n p) (linesF (textT es)) 0 [] = .inl es := by
    rw [lines_back]
    exact readF_back es 0 [] (fun t ht => entF_line (by decide) w (h t ht)) ha
  rw [e] at hans
  exact heard_eq hans noErr_ents
def thgs (es : List (Int × Int × Int)) : List D := [.str "", .str "\n", .str " ", .str "0 1 1", .str "0 1 1\n", .non, .bl true, .int 0, .tup [], .lst [], .tup (es.map entD), .lst [.str "0 1 1"], .dK [], .dK [(.inr "0", .str "0 1 1")]]
theorem things_right (w : Sc p n k) {es : List (Int × Int × Int)} {x : D} (hx : x ∈ thgs es) (S : Sto) : m__law_right G [plan p n k, szD p n k, x] S = .ok (.bl true) S := by
  unfold thgs at hx
  simp only [List.mem_cons, List.not_mem_nil, or_false] at hx
  rcases hx with rfl | rfl | rfl | rfl | rfl | rfl | rfl | rfl | rfl | rfl | rfl | rfl | rfl | rfl
  · exact right_str w (by decide +kernel)
  · exact right_str w (by decide +kernel)
  · exact right_str w (by decide +kernel)
  · exact right_str w (by decide +kernel)
  · exact right_str w (by decide +kernel)
  all_goals exact right_non rfl
theorem law_tells : Tells 63 (m_law G) := fun ns hn _ => by
  suffices h : wp (m_law G [.scr (ns.map D.int)] []) fun d _ => d = .bl true by
    obtain ⟨a, S, e, rfl⟩ := wp_ex h
    exact ⟨S, e⟩
  rw [m_law, fnR_eq]
  show wp (ret [] (c_law G [some (.scr (iD ns)), none, none, none, none, none, none, none, none, none] [])) _
  unfold c_law
  push_cast []
  refine wp_of (source_wp hn) ?_
  rintro _ S0 ⟨rfl, h0⟩
  push_cast []
  refine wp_for (List.range (3 : Int).toNat) (fun (i : Nat) => D.int (0 + (i : Int))) (fun pre ρ S' => ∃ o2 o3 o4 o5 o6 o7 o8 o9, ρ = [some (.scr (iD ns)), some (.ref 1), o2, o3, o4, o5, o6, o7, o8, o9] ∧ DkE (4000 * pre.length) S') (rng1 (by push_cast []) ⟨by omega, by omega⟩) (fun _ _ _ _ => ok_nil) ⟨none, none, none, none, none, none, none, none, rfl, h0⟩ ?_ ?_
  · rintro pre t post ρ S' hr ⟨o2, o3, o4, o5, o6, o7, o8, o9, rfl, h'⟩
    obtain ⟨t0, t1, t2⟩ := range_pre hr
    have t3 : pre.length < 3 := t2
    have hpre : (pre ++ [t]).length = pre.length + 1 := by simp
    rw [hpre]
    generalize hJ : 4000 * pre.length = J at h'
    have hJ2 : J ≤ 12000 := by omega
    push_cast []
    refine wp_of (sizes_wp h' (by omega)) ?_
    rintro _ S1 ⟨p, n, k, rfl, hp, w, h1, s1⟩
    have z0 : ∀ S, p_ix (szD p n k) (.int 0) S = .ok (.int p) S := fun _ => rfl
    have z1 : ∀ S, p_ix (szD p n k) (.int 1) S = .ok (.int n) S := fun _ => rfl
    have z2 : ∀ S, p_ix (szD p n k) (.int 2) S = .ok (.int k) S := fun _ => rfl
    push_cast [z0, z1, z2, plan_make w hp]
    refine wp_of (any_table_wp w h1 (by omega)) ?_
    rintro _ S2 ⟨es, rfl, hes, hasc, hlen, h2, s2⟩
    have hb : ∀ t ∈ es, Eb t := fun t ht => (hes t ht).eb w
    have hT := textT_len (by omega) hb
    have e1 := fun S => wording_eq (G := G) (S := S) (es := es) (by omega) hb
    have e2 := fun S => table_text_eq (G := G) (S := S) (es := es) (by omega) hb
    obtain ⟨X, hX, oX⟩ := repr_two (textT_ok es) (by omega)
    obtain ⟨Y, hY, oY⟩ := repr_ents hb hlen
    have nX := fun S => ne_str (S := S) oX
    have nY := fun S => ne_str (S := S) oY
    have l2 : ∀ (x y : D) (S : Sto), p_lst false [x, y] S = .ok (.lst [x, y]) S := fun _ _ _ => rfl
    have hh := fun (b : Bool) (S : Sto) => heard_back (G := G) w hes hasc hlen (b := b) S
    push_cast [mp__law_wording, e1, mp_table_text, e2, DL.gP, List.map_cons, List.map_nil, List.getD_cons_zero, List.getD_cons_succ, List.append_assoc, List.nil_append, l2, hX, nX, mp__law_heard, hh, hY, nY]
    refine wp_for (List.range (10 : Int).toNat) (fun (i : Nat) => D.int (0 + (i : Int))) (fun pre ρ S' => ∃ o7 o8 o9, ρ = [some (.scr (iD ns)), some (.ref 1), some (.int (0 + (t : Int))), some (szD p n k), some (plan p n k), some (.tup (es.map entD)), some (.str (textT es)), o7, o8, o9] ∧ DkE (J + 3 + 2600 + 30 * pre.length) S') (rng1 (by push_cast []) ⟨by omega, by omega⟩) (fun _ _ _ _ => ok_nil) ⟨_, _, _, rfl, h2⟩ ?_ ?_
    · rintro pre2 i post2 ρ S3 hr2 ⟨o7, o8, o9, rfl, h3⟩
      obtain ⟨q0, q1, q2⟩ := range_pre hr2
      have q3 : pre2.length < 10 := q2
      rw [List.length_append, List.length_singleton]
      push_cast []
      refine wp_of (bent_wp w h3 (by omega) (by omega)) ?_
      rintro _ S4 ⟨x, rfl, hx, h4, s4⟩
      push_cast []
      refine wp_of (random_wp h4 (by omega) (by omega) (by omega)) ?_
      rintro _ S5 ⟨v, rfl, v0, v1, h5, s5⟩
      by_cases hv : v = 0
      · subst hv
        push_cast []
        refine wp_of (bent_wp w h5 (by omega) (by omega)) ?_
        rintro _ S6 ⟨y, rfl, hy, h6, s6⟩
        have hR := right_str (G := G) (S := S6) w (text := y) (by omega)
        push_cast [mp__law_right, hR]
        exact ⟨_, _, _, rfl, h6.mono (by omega)⟩
      · have hR := right_str (G := G) (S := S5) w (text := x) (by omega)
        push_cast [hv, mp__law_right, hR]
        exact ⟨_, _, _, rfl, h5.mono (by omega)⟩
    · rintro ρ S3 ⟨o7, o8, o9, rfl, h3⟩
      rw [List.length_range] at h3
      push_cast []
      have d0 : ∀ S : Sto, p_dK false [] S = .ok (.dK []) S := fun _ => rfl
      have d1 : ∀ S : Sto, p_dispK false [(.str "0", .str "0 1 1")] S = .ok (.dK [(.inr "0", .str "0 1 1")]) S := fun _ => rfl
      have l1 : ∀ (x : D) (S : Sto), p_lst false [x] S = .ok (.lst [x]) S := fun _ _ => rfl
      refine wp_for (thgs es) id (fun pre ρ S' => ∃ o9, ρ = [some (.scr (iD ns)), some (.ref 1), some (.int (0 + (t : Int))), some (szD p n k), some (plan p n k), some (.tup (es.map entD)), some (.str (textT es)), o7, o8, o9] ∧ S' = S3) (it_eq (x := .tup ((thgs es).map id)) (by push_cast [d0, d1, l1]; rfl) rfl) (fun _ _ _ _ => ok_one rfl) ⟨_, rfl, rfl⟩ ?_ ?_
      · rintro pre2 x post2 ρ S4 hr2 ⟨o9, rfl, rfl⟩
        have hR := things_right (G := G) w (x := x) (es := es) (by rw [hr2]; simp) S4
        push_cast [id_eq, mp__law_right, hR]
        exact ⟨_, rfl, by first | rfl | trivial⟩
      · rintro ρ S4 ⟨o9, rfl, rfl⟩
        exact ⟨_, _, _, _, _, _, _, _, rfl, h3.mono (by show J + 3 + 2600 + 30 * 10 ≤ _; omega)⟩
  · rintro ρ S' ⟨o2, o3, o4, o5, o6, o7, o8, o9, rfl, h'⟩
    push_cast []
    refine wp_of (P := fun d _ => d = .bl true) ?_ fun a S h => h
    unfold fin
    split
    · exact ⟨rfl⟩
    · split <;> exact ⟨rfl⟩
end
end K52
set_option Elab.async false
set_option linter.all false
set_option maxRecDepth 100000
set_option maxHeartbeats 4000000
/-! DH: the end of a law over one kernel run of the top (HandS.Head2), the facts read by a Hook of our own -/
namespace DL
open PySem PySem.Spec PyProof.Rows L2
/-! ### the part of the heap that is looked at -/
/-! ### addresses by names -/
/-! ### facts as Bools -/
def eqV (a b : Option Value) : Bool := decide (a = b)
/-! ### functions -/
structure HdF where
  at_ : PySem.W.Frag → Addr
  name : Str
  qual : Str
  params : Arguments
  body : List Stmt
  scope : Scope
def HdF.val (d : HdF) : He.FnV := some (d.name, d.qual, d.params, .stmts d.body, d.scope, mainGlobals, [], .none, builtinsNs)
/-! ### the Hook -/
end DL
/-! ### the end: printed by gen.py -/
namespace K52
open PySem PySem.Spec PyProof.Rows L2 DL
set_option maxHeartbeats 8000000 in
theorem all_mk {l : PySem.W.OpenLaw} {w : World} {K : PySem.W.Frag} {h : Heap} {mg : Str → Option Value} {fa : Addr} (X : K.In h) (N : h.Ns mainGlobals mg) (hfa : mg "law" = some (.ref fa))
    {C_Scheme : Addr}
    {f__law_source : Addr}
    {oc__law_source kV__law_source dc__law_source pm__law_source cd__law_source ct__law_source : Value}
    {od__law_source an__law_source : Option Addr}
    {sl__law_source : Array (Option Value)}
    {f__law_random : Addr}
    {oc__law_random kV__law_random dc__law_random pm__law_random cd__law_random ct__law_random : Value}
    {od__law_random an__law_random : Option Addr}
    {sl__law_random : Array (Option Value)}
    {f__law_choice : Addr}
    {oc__law_choice kV__law_choice dc__law_choice pm__law_choice cd__law_choice ct__law_choice : Value}
    {od__law_choice an__law_choice : Option Addr}
    {sl__law_choice : Array (Option Value)}
    {f__law_sizes : Addr}
    {oc__law_sizes kV__law_sizes dc__law_sizes pm__law_sizes cd__law_sizes ct__law_sizes : Value}
    {od__law_sizes an__law_sizes : Option Addr}
    {sl__law_sizes : Array (Option Value)}
    {f__law_wording : Addr}
    {oc__law_wording kV__law_wording dc__law_wording pm__law_wording cd__law_wording ct__law_wording : Value}
    {od__law_wording an__law_wording : Option Addr}
    {sl__law_wording : Array (Option Value)}
    {f_is_between : Addr}
    {oc_is_between kV_is_between dc_is_between pm_is_between cd_is_between ct_is_between : Value}
    {od_is_between an_is_between : Option Addr}
    {sl_is_between : Array (Option Value)}
    {f_reduced_modulo : Addr}
    {oc_reduced_modulo kV_reduced_modulo dc_reduced_modulo pm_reduced_modulo cd_reduced_modulo ct_reduced_modulo : Value}
    {od_reduced_modulo an_reduced_modulo : Option Addr}
    {sl_reduced_modulo : Array (Option Value)}
    {f_power_of : Addr}
    {oc_power_of kV_power_of dc_power_of pm_power_of cd_power_of ct_power_of : Value}
    {od_power_of an_power_of : Option Addr}
    {sl_power_of : Array (Option Value)}
    {f_is_probable : Addr}
    {oc_is_probable kV_is_probable dc_is_probable pm_is_probable cd_is_probable ct_is_probable : Value}
    {od_is_probable an_is_probable : Option Addr}
    {sl_is_probable : Array (Option Value)}
    {f_is_odd_prime : Addr}
    {oc_is_odd_prime kV_is_odd_prime dc_is_odd_prime pm_is_odd_prime cd_is_odd_prime ct_is_odd_prime : Value}
    {od_is_odd_prime an_is_odd_prime : Option Addr}
    {sl_is_odd_prime : Array (Option Value)}
    {f_Scheme_is_prime : Addr}
    {oc_Scheme_is_prime kV_Scheme_is_prime dc_Scheme_is_prime pm_Scheme_is_prime cd_Scheme_is_prime ct_Scheme_is_prime : Value}
    {od_Scheme_is_prime an_Scheme_is_prime : Option Addr}
    {sl_Scheme_is_prime : Array (Option Value)}
    {pr_Scheme_is_prime : Addr}
    {rs_Scheme_is_prime : List Value}
    {f_Scheme__init_ : Addr}
    {oc_Scheme__init_ kV_Scheme__init_ dc_Scheme__init_ pm_Scheme__init_ cd_Scheme__init_ ct_Scheme__init_ : Value}
    {od_Scheme__init_ an_Scheme__init_ : Option Addr}
    {sl_Scheme__init_ : Array (Option Value)}
    {f__law_any_table : Addr}
    {oc__law_any_table kV__law_any_table dc__law_any_table pm__law_any_table cd__law_any_table ct__law_any_table : Value}
    {od__law_any_table an__law_any_table : Option Addr}
    {sl__law_any_table : Array (Option Value)}
    {f__law_odd_line : Addr}
    {oc__law_odd_line kV__law_odd_line dc__law_odd_line pm__law_odd_line cd__law_odd_line ct__law_odd_line : Value}
    {od__law_odd_line an__law_odd_line : Option Addr}
    {sl__law_odd_line : Array (Option Value)}
    {f__law_bent : Addr}
    {oc__law_bent kV__law_bent dc__law_bent pm__law_bent cd__law_bent ct__law_bent : Value}
    {od__law_bent an__law_bent : Option Addr}
    {sl__law_bent : Array (Option Value)}
    {f_integer_in : Addr}
    {oc_integer_in kV_integer_in dc_integer_in pm_integer_in cd_integer_in ct_integer_in : Value}
    {od_integer_in an_integer_in : Option Addr}
    {sl_integer_in : Array (Option Value)}
    {f_integers_in : Addr}
    {oc_integers_in kV_integers_in dc_integers_in pm_integers_in cd_integers_in ct_integers_in : Value}
    {od_integers_in an_integers_in : Option Addr}
    {sl_integers_in : Array (Option Value)}
    {f_is_integer : Addr}
    {oc_is_integer kV_is_integer dc_is_integer pm_is_integer cd_is_integer ct_is_integer : Value}
    {od_is_integer an_is_integer : Option Addr}
    {sl_is_integer : Array (Option Value)}
    {f_Scheme_largest_amount : Addr}
    {oc_Scheme_largest_amount kV_Scheme_largest_amount dc_Scheme_largest_amount pm_Scheme_largest_amount cd_Scheme_largest_amount ct_Scheme_largest_amount : Value}
    {od_Scheme_largest_amount an_Scheme_largest_amount : Option Addr}
    {sl_Scheme_largest_amount : Array (Option Value)}
    {pr_Scheme_largest_amount : Addr}
    {rs_Scheme_largest_amount : List Value}
    {f_is_reduced : Addr}
    {oc_is_reduced kV_is_reduced dc_is_reduced pm_is_reduced cd_is_reduced ct_is_reduced : Value}
    {od_is_reduced an_is_reduced : Option Addr}
    {sl_is_reduced : Array (Option Value)}
    {f_Scheme_accounts : Addr}
    {oc_Scheme_accounts kV_Scheme_accounts dc_Scheme_accounts pm_Scheme_accounts cd_Scheme_accounts ct_Scheme_accounts : Value}
    {od_Scheme_accounts an_Scheme_accounts : Option Addr}
    {sl_Scheme_accounts : Array (Option Value)}
    {pr_Scheme_accounts : Addr}
    {rs_Scheme_accounts : List Value}
    {f_entry_in : Addr}
    {oc_entry_in kV_entry_in dc_entry_in pm_entry_in cd_entry_in ct_entry_in : Value}
    {od_entry_in an_entry_in : Option Addr}
    {sl_entry_in : Array (Option Value)}
    {f_read_table_text : Addr}
    {oc_read_table_text kV_read_table_text dc_read_table_text pm_read_table_text cd_read_table_text ct_read_table_text : Value}
    {od_read_table_text an_read_table_text : Option Addr}
    {sl_read_table_text : Array (Option Value)}
    {f__law_heard : Addr}
    {oc__law_heard kV__law_heard dc__law_heard pm__law_heard cd__law_heard ct__law_heard : Value}
    {od__law_heard an__law_heard : Option Addr}
    {sl__law_heard : Array (Option Value)}
    {f__law_integer : Addr}
    {oc__law_integer kV__law_integer dc__law_integer pm__law_integer cd__law_integer ct__law_integer : Value}
    {od__law_integer an__law_integer : Option Addr}
    {sl__law_integer : Array (Option Value)}
    {f__law_entry : Addr}
    {oc__law_entry kV__law_entry dc__law_entry pm__law_entry cd__law_entry ct__law_entry : Value}
    {od__law_entry an__law_entry : Option Addr}
    {sl__law_entry : Array (Option Value)}
    {f__law_decided : Addr}
    {oc__law_decided kV__law_decided dc__law_decided pm__law_decided cd__law_decided ct__law_decided : Value}
    {od__law_decided an__law_decided : Option Addr}
    {sl__law_decided : Array (Option Value)}
    {f__law_right : Addr}
    {oc__law_right kV__law_right dc__law_right pm__law_right cd__law_right ct__law_right : Value}
    {od__law_right an__law_right : Option Addr}
    {sl__law_right : Array (Option Value)}
    {f_table_text : Addr}
    {oc_table_text kV_table_text dc_table_text pm_table_text cd_table_text ct_table_text : Value}
    {od_table_text an_table_text : Option Addr}
    {sl_table_text : Array (Option Value)}
    {f_law : Addr}
    {oc_law kV_law dc_law pm_law cd_law ct_law : Value}
    {od_law an_law : Option Addr}
    {sl_law : Array (Option Value)}
    {X_BadText : Addr}
    {X_CrossError : Addr}
    {f_BadText__init_ : Addr}
    {oc_BadText__init_ kV_BadText__init_ dc_BadText__init_ pm_BadText__init_ cd_BadText__init_ ct_BadText__init_ : Value}
    {od_BadText__init_ an_BadText__init_ : Option Addr}
    {sl_BadText__init_ : Array (Option Value)}
    {xnm_BadText xq_BadText : Str}
    {xN_BadText : Addr}
    {xbs_BadText xsub_BadText : List Value}
    {xsn_BadText : List Str}
    {xab_BadText : Bool}
    {xcol_BadText : Option Bool}
    {xdd_BadText : Option Addr}
    {x0_BadText x1_BadText x2_BadText x3_BadText x5_BadText : Option Value}
    {ka_BASES : Addr}
    {kod_BASES : Option Addr}
    {ksl_BASES : Array (Option Value)}
    {kn_BASES : Nat}
    {kt_BASES_0 kt_BASES_1 kt_BASES_2 kt_BASES_3 : Tok}
    {kt_DIGITS : Tok}
    {kt_ENTRY_NUMBERS : Tok}
    {kt_LEAST_ACCOUNTS : Tok}
    {kt_MOST_DIGITS : Tok}
    {t_Scheme_LARGEST_PRIME : Tok}
    {t_Scheme_MOST_ACCOUNTS : Tok}
    {t_Scheme_MOST_NUMBERS : Tok}
    (aC_Scheme : PySem.W.nsIn K mainGlobals "Scheme" = some (some (.ref C_Scheme)))
    (a__law_source : PySem.W.nsIn K mainGlobals "_law_source" = some (some (.ref f__law_source)))
    (l__law_source : K.lookup f__law_source = some ⟨oc__law_source, od__law_source, .func (PySem.W.fnOf "_law_source" "_law_source" (defArgs s__law_source) (defBody s__law_source) (defScope s__law_source) .none kV__law_source dc__law_source pm__law_source an__law_source cd__law_source ct__law_source), sl__law_source⟩)
    (c__law_source : PySem.W.codeIn K cd__law_source "_law_source" = true)
    (k__law_source : PySem.W.keepIn K (.ref f__law_source) = true)
    (a__law_random : PySem.W.nsIn K mainGlobals "_law_random" = some (some (.ref f__law_random)))
    (l__law_random : K.lookup f__law_random = some ⟨oc__law_random, od__law_random, .func (PySem.W.fnOf "_law_random" "_law_random" (defArgs s__law_random) (defBody s__law_random) (defScope s__law_random) .none kV__law_random dc__law_random pm__law_random an__law_random cd__law_random ct__law_random), sl__law_random⟩)
    (c__law_random : PySem.W.codeIn K cd__law_random "_law_random" = true)
    (k__law_random : PySem.W.keepIn K (.ref f__law_random) = true)
    (a__law_choice : PySem.W.nsIn K mainGlobals "_law_choice" = some (some (.ref f__law_choice)))
    (l__law_choice : K.lookup f__law_choice = some ⟨oc__law_choice, od__law_choice, .func (PySem.W.fnOf "_law_choice" "_law_choice" (defArgs s__law_choice) (defBody s__law_choice) (defScope s__law_choice) .none kV__law_choice dc__law_choice pm__law_choice an__law_choice cd__law_choice ct__law_choice), sl__law_choice⟩)
    (c__law_choice : PySem.W.codeIn K cd__law_choice "_law_choice" = true)
    (k__law_choice : PySem.W.keepIn K (.ref f__law_choice) = true)
    (a__law_sizes : PySem.W.nsIn K mainGlobals "_law_sizes" = some (some (.ref f__law_sizes)))
    (l__law_sizes : K.lookup f__law_sizes = some ⟨oc__law_sizes, od__law_sizes, .func (PySem.W.fnOf "_law_sizes" "_law_sizes" (defArgs s__law_sizes) (defBody s__law_sizes) (defScope s__law_sizes) .none kV__law_sizes dc__law_sizes pm__law_sizes an__law_sizes cd__law_sizes ct__law_sizes), sl__law_sizes⟩)
    (c__law_sizes : PySem.W.codeIn K cd__law_sizes "_law_sizes" = true)
    (k__law_sizes : PySem.W.keepIn K (.ref f__law_sizes) = true)
    (a__law_wording : PySem.W.nsIn K mainGlobals "_law_wording" = some (some (.ref f__law_wording)))
    (l__law_wording : K.lookup f__law_wording = some ⟨oc__law_wording, od__law_wording, .func (PySem.W.fnOf "_law_wording" "_law_wording" (defArgs s__law_wording) (defBody s__law_wording) (defScope s__law_wording) .none kV__law_wording dc__law_wording pm__law_wording an__law_wording cd__law_wording ct__law_wording), sl__law_wording⟩)
    (c__law_wording : PySem.W.codeIn K cd__law_wording "_law_wording" = true)
    (k__law_wording : PySem.W.keepIn K (.ref f__law_wording) = true)
    (a_is_between : PySem.W.nsIn K mainGlobals "is_between" = some (some (.ref f_is_between)))
    (l_is_between : K.lookup f_is_between = some ⟨oc_is_between, od_is_between, .func (PySem.W.fnOf "is_between" "is_between" (defArgs s_is_between) (defBody s_is_between) (defScope s_is_between) .none kV_is_between dc_is_between pm_is_between an_is_between cd_is_between ct_is_between), sl_is_between⟩)
    (c_is_between : PySem.W.codeIn K cd_is_between "is_between" = true)
    (k_is_between : PySem.W.keepIn K (.ref f_is_between) = true)
    (a_reduced_modulo : PySem.W.nsIn K mainGlobals "reduced_modulo" = some (some (.ref f_reduced_modulo)))
    (l_reduced_modulo : K.lookup f_reduced_modulo = some ⟨oc_reduced_modulo, od_reduced_modulo, .func (PySem.W.fnOf "reduced_modulo" "reduced_modulo" (defArgs s_reduced_modulo) (defBody s_reduced_modulo) (defScope s_reduced_modulo) .none kV_reduced_modulo dc_reduced_modulo pm_reduced_modulo an_reduced_modulo cd_reduced_modulo ct_reduced_modulo), sl_reduced_modulo⟩)
    (c_reduced_modulo : PySem.W.codeIn K cd_reduced_modulo "reduced_modulo" = true)
    (k_reduced_modulo : PySem.W.keepIn K (.ref f_reduced_modulo) = true)
    (a_power_of : PySem.W.nsIn K mainGlobals "power_of" = some (some (.ref f_power_of)))
    (l_power_of : K.lookup f_power_of = some ⟨oc_power_of, od_power_of, .func (PySem.W.fnOf "power_of" "power_of" (defArgs s_power_of) (defBody s_power_of) (defScope s_power_of) .none kV_power_of dc_power_of pm_power_of an_power_of cd_power_of ct_power_of), sl_power_of⟩)
    (c_power_of : PySem.W.codeIn K cd_power_of "power_of" = true)
    (k_power_of : PySem.W.keepIn K (.ref f_power_of) = true)
    (a_is_probable : PySem.W.nsIn K mainGlobals "is_probable" = some (some (.ref f_is_probable)))
    (l_is_probable : K.lookup f_is_probable = some ⟨oc_is_probable, od_is_probable, .func (PySem.W.fnOf "is_probable" "is_probable" (defArgs s_is_probable) (defBody s_is_probable) (defScope s_is_probable) .none kV_is_probable dc_is_probable pm_is_probable an_is_probable cd_is_probable ct_is_probable), sl_is_probable⟩)
    (c_is_probable : PySem.W.codeIn K cd_is_probable "is_probable" = true)
    (k_is_probable : PySem.W.keepIn K (.ref f_is_probable) = true)
    (a_is_odd_prime : PySem.W.nsIn K mainGlobals "is_odd_prime" = some (some (.ref f_is_odd_prime)))
    (l_is_odd_prime : K.lookup f_is_odd_prime = some ⟨oc_is_odd_prime, od_is_odd_prime, .func (PySem.W.fnOf "is_odd_prime" "is_odd_prime" (defArgs s_is_odd_prime) (defBody s_is_odd_prime) (defScope s_is_odd_prime) .none kV_is_odd_prime dc_is_odd_prime pm_is_odd_prime an_is_odd_prime cd_is_odd_prime ct_is_odd_prime), sl_is_odd_prime⟩)
    (c_is_odd_prime : PySem.W.codeIn K cd_is_odd_prime "is_odd_prime" = true)
    (k_is_odd_prime : PySem.W.keepIn K (.ref f_is_odd_prime) = true)
    (m_Scheme_is_prime : PySem.W.findCls K (.ref C_Scheme) (.type "type") "is_prime" = some (.get (.builtin "staticmethod.__get__") (.ref pr_Scheme_is_prime) .none (.ref C_Scheme)))
    (px_Scheme_is_prime : PySem.W.recIn K pr_Scheme_is_prime "staticmethod" = some (.ref f_Scheme_is_prime :: rs_Scheme_is_prime))
    (l_Scheme_is_prime : K.lookup f_Scheme_is_prime = some ⟨oc_Scheme_is_prime, od_Scheme_is_prime, .func (PySem.W.fnOf "is_prime" "Scheme.is_prime" (defArgs s_Scheme_is_prime) (defBody s_Scheme_is_prime) (defScope s_Scheme_is_prime) .none kV_Scheme_is_prime dc_Scheme_is_prime pm_Scheme_is_prime an_Scheme_is_prime cd_Scheme_is_prime ct_Scheme_is_prime), sl_Scheme_is_prime⟩)
    (c_Scheme_is_prime : PySem.W.codeIn K cd_Scheme_is_prime "Scheme.is_prime" = true)
    (k_Scheme_is_prime : PySem.W.keepIn K (.ref f_Scheme_is_prime) = true)
    (m_Scheme__init_ : PySem.W.findIn K (.ref C_Scheme) "__init__" = some (some (.ref f_Scheme__init_)))
    (i_Scheme__init_ : PySem.W.isFn K (.ref f_Scheme__init_) = true)
    (l_Scheme__init_ : K.lookup f_Scheme__init_ = some ⟨oc_Scheme__init_, od_Scheme__init_, .func (PySem.W.fnOf "__init__" "Scheme.__init__" (defArgs s_Scheme__init_) (defBody s_Scheme__init_) (defScope s_Scheme__init_) .none kV_Scheme__init_ dc_Scheme__init_ pm_Scheme__init_ an_Scheme__init_ cd_Scheme__init_ ct_Scheme__init_), sl_Scheme__init_⟩)
    (c_Scheme__init_ : PySem.W.codeIn K cd_Scheme__init_ "Scheme.__init__" = true)
    (k_Scheme__init_ : PySem.W.keepIn K (.ref f_Scheme__init_) = true)
    (a__law_any_table : PySem.W.nsIn K mainGlobals "_law_any_table" = some (some (.ref f__law_any_table)))
    (l__law_any_table : K.lookup f__law_any_table = some ⟨oc__law_any_table, od__law_any_table, .func (PySem.W.fnOf "_law_any_table" "_law_any_table" (defArgs s__law_any_table) (defBody s__law_any_table) (defScope s__law_any_table) .none kV__law_any_table dc__law_any_table pm__law_any_table an__law_any_table cd__law_any_table ct__law_any_table), sl__law_any_table⟩)
    (c__law_any_table : PySem.W.codeIn K cd__law_any_table "_law_any_table" = true)
    (k__law_any_table : PySem.W.keepIn K (.ref f__law_any_table) = true)
    (a__law_odd_line : PySem.W.nsIn K mainGlobals "_law_odd_line" = some (some (.ref f__law_odd_line)))
    (l__law_odd_line : K.lookup f__law_odd_line = some ⟨oc__law_odd_line, od__law_odd_line, .func (PySem.W.fnOf "_law_odd_line" "_law_odd_line" (defArgs s__law_odd_line) (defBody s__law_odd_line) (defScope s__law_odd_line) .none kV__law_odd_line dc__law_odd_line pm__law_odd_line an__law_odd_line cd__law_odd_line ct__law_odd_line), sl__law_odd_line⟩)
    (c__law_odd_line : PySem.W.codeIn K cd__law_odd_line "_law_odd_line" = true)
    (k__law_odd_line : PySem.W.keepIn K (.ref f__law_odd_line) = true)
    (a__law_bent : PySem.W.nsIn K mainGlobals "_law_bent" = some (some (.ref f__law_bent)))
    (l__law_bent : K.lookup f__law_bent = some ⟨oc__law_bent, od__law_bent, .func (PySem.W.fnOf "_law_bent" "_law_bent" (defArgs s__law_bent) (defBody s__law_bent) (defScope s__law_bent) .none kV__law_bent dc__law_bent pm__law_bent an__law_bent cd__law_bent ct__law_bent), sl__law_bent⟩)
    (c__law_bent : PySem.W.codeIn K cd__law_bent "_law_bent" = true)
    (k__law_bent : PySem.W.keepIn K (.ref f__law_bent) = true)
    (a_integer_in : PySem.W.nsIn K mainGlobals "integer_in" = some (some (.ref f_integer_in)))
    (l_integer_in : K.lookup f_integer_in = some ⟨oc_integer_in, od_integer_in, .func (PySem.W.fnOf "integer_in" "integer_in" (defArgs s_integer_in) (defBody s_integer_in) (defScope s_integer_in) .none kV_integer_in dc_integer_in pm_integer_in an_integer_in cd_integer_in ct_integer_in), sl_integer_in⟩)
    (c_integer_in : PySem.W.codeIn K cd_integer_in "integer_in" = true)
    (k_integer_in : PySem.W.keepIn K (.ref f_integer_in) = true)
    (a_integers_in : PySem.W.nsIn K mainGlobals "integers_in" = some (some (.ref f_integers_in)))
    (l_integers_in : K.lookup f_integers_in = some ⟨oc_integers_in, od_integers_in, .func (PySem.W.fnOf "integers_in" "integers_in" (defArgs s_integers_in) (defBody s_integers_in) (defScope s_integers_in) .none kV_integers_in dc_integers_in pm_integers_in an_integers_in cd_integers_in ct_integers_in), sl_integers_in⟩)
    (c_integers_in : PySem.W.codeIn K cd_integers_in "integers_in" = true)
    (k_integers_in : PySem.W.keepIn K (.ref f_integers_in) = true)
    (a_is_integer : PySem.W.nsIn K mainGlobals "is_integer" = some (some (.ref f_is_integer)))
    (l_is_integer : K.lookup f_is_integer = some ⟨oc_is_integer, od_is_integer, .func (PySem.W.fnOf "is_integer" "is_integer" (defArgs s_is_integer) (defBody s_is_integer) (defScope s_is_integer) .none kV_is_integer dc_is_integer pm_is_integer an_is_integer cd_is_integer ct_is_integer), sl_is_integer⟩)
    (c_is_integer : PySem.W.codeIn K cd_is_integer "is_integer" = true)
    (k_is_integer : PySem.W.keepIn K (.ref f_is_integer) = true)
    (m_Scheme_largest_amount : PySem.W.findIn K (.ref C_Scheme) "largest_amount" = some (some (.ref pr_Scheme_largest_amount)))
    (pg_Scheme_largest_amount : PySem.W.specialIn K (.ref pr_Scheme_largest_amount) "__get__" = some (some (.builtin "property.__get__")))
    (pt_Scheme_largest_amount : PySem.W.takesIn K (.ref pr_Scheme_largest_amount) = some true)
    (px_Scheme_largest_amount : PySem.W.recIn K pr_Scheme_largest_amount "property" = some (.ref f_Scheme_largest_amount :: rs_Scheme_largest_amount))
    (l_Scheme_largest_amount : K.lookup f_Scheme_largest_amount = some ⟨oc_Scheme_largest_amount, od_Scheme_largest_amount, .func (PySem.W.fnOf "largest_amount" "Scheme.largest_amount" (defArgs s_Scheme_largest_amount) (defBody s_Scheme_largest_amount) (defScope s_Scheme_largest_amount) .none kV_Scheme_largest_amount dc_Scheme_largest_amount pm_Scheme_largest_amount an_Scheme_largest_amount cd_Scheme_largest_amount ct_Scheme_largest_amount), sl_Scheme_largest_amount⟩)
    (c_Scheme_largest_amount : PySem.W.codeIn K cd_Scheme_largest_amount "Scheme.largest_amount" = true)
    (k_Scheme_largest_amount : PySem.W.keepIn K (.ref f_Scheme_largest_amount) = true)
    (a_is_reduced : PySem.W.nsIn K mainGlobals "is_reduced" = some (some (.ref f_is_reduced)))
    (l_is_reduced : K.lookup f_is_reduced = some ⟨oc_is_reduced, od_is_reduced, .func (PySem.W.fnOf "is_reduced" "is_reduced" (defArgs s_is_reduced) (defBody s_is_reduced) (defScope s_is_reduced) .none kV_is_reduced dc_is_reduced pm_is_reduced an_is_reduced cd_is_reduced ct_is_reduced), sl_is_reduced⟩)
    (c_is_reduced : PySem.W.codeIn K cd_is_reduced "is_reduced" = true)
    (k_is_reduced : PySem.W.keepIn K (.ref f_is_reduced) = true)
    (m_Scheme_accounts : PySem.W.findIn K (.ref C_Scheme) "accounts" = some (some (.ref pr_Scheme_accounts)))
    (pg_Scheme_accounts : PySem.W.specialIn K (.ref pr_Scheme_accounts) "__get__" = some (some (.builtin "property.__get__")))
    (pt_Scheme_accounts : PySem.W.takesIn K (.ref pr_Scheme_accounts) = some true)
    (px_Scheme_accounts : PySem.W.recIn K pr_Scheme_accounts "property" = some (.ref f_Scheme_accounts :: rs_Scheme_accounts))
    (l_Scheme_accounts : K.lookup f_Scheme_accounts = some ⟨oc_Scheme_accounts, od_Scheme_accounts, .func (PySem.W.fnOf "accounts" "Scheme.accounts" (defArgs s_Scheme_accounts) (defBody s_Scheme_accounts) (defScope s_Scheme_accounts) .none kV_Scheme_accounts dc_Scheme_accounts pm_Scheme_accounts an_Scheme_accounts cd_Scheme_accounts ct_Scheme_accounts), sl_Scheme_accounts⟩)
    (c_Scheme_accounts : PySem.W.codeIn K cd_Scheme_accounts "Scheme.accounts" = true)
    (k_Scheme_accounts : PySem.W.keepIn K (.ref f_Scheme_accounts) = true)
    (a_entry_in : PySem.W.nsIn K mainGlobals "entry_in" = some (some (.ref f_entry_in)))
    (l_entry_in : K.lookup f_entry_in = some ⟨oc_entry_in, od_entry_in, .func (PySem.W.fnOf "entry_in" "entry_in" (defArgs s_entry_in) (defBody s_entry_in) (defScope s_entry_in) .none kV_entry_in dc_entry_in pm_entry_in an_entry_in cd_entry_in ct_entry_in), sl_entry_in⟩)
    (c_entry_in : PySem.W.codeIn K cd_entry_in "entry_in" = true)
    (k_entry_in : PySem.W.keepIn K (.ref f_entry_in) = true)
    (a_read_table_text : PySem.W.nsIn K mainGlobals "read_table_text" = some (some (.ref f_read_table_text)))
    (l_read_table_text : K.lookup f_read_table_text = some ⟨oc_read_table_text, od_read_table_text, .func (PySem.W.fnOf "read_table_text" "read_table_text" (defArgs s_read_table_text) (defBody s_read_table_text) (defScope s_read_table_text) .none kV_read_table_text dc_read_table_text pm_read_table_text an_read_table_text cd_read_table_text ct_read_table_text), sl_read_table_text⟩)
    (c_read_table_text : PySem.W.codeIn K cd_read_table_text "read_table_text" = true)
    (k_read_table_text : PySem.W.keepIn K (.ref f_read_table_text) = true)
    (a__law_heard : PySem.W.nsIn K mainGlobals "_law_heard" = some (some (.ref f__law_heard)))
    (l__law_heard : K.lookup f__law_heard = some ⟨oc__law_heard, od__law_heard, .func (PySem.W.fnOf "_law_heard" "_law_heard" (defArgs s__law_heard) (defBody s__law_heard) (defScope s__law_heard) .none kV__law_heard dc__law_heard pm__law_heard an__law_heard cd__law_heard ct__law_heard), sl__law_heard⟩)
    (c__law_heard : PySem.W.codeIn K cd__law_heard "_law_heard" = true)
    (k__law_heard : PySem.W.keepIn K (.ref f__law_heard) = true)
    (a__law_integer : PySem.W.nsIn K mainGlobals "_law_integer" = some (some (.ref f__law_integer)))
    (l__law_integer : K.lookup f__law_integer = some ⟨oc__law_integer, od__law_integer, .func (PySem.W.fnOf "_law_integer" "_law_integer" (defArgs s__law_integer) (defBody s__law_integer) (defScope s__law_integer) .none kV__law_integer dc__law_integer pm__law_integer an__law_integer cd__law_integer ct__law_integer), sl__law_integer⟩)
    (c__law_integer : PySem.W.codeIn K cd__law_integer "_law_integer" = true)
    (k__law_integer : PySem.W.keepIn K (.ref f__law_integer) = true)
    (a__law_entry : PySem.W.nsIn K mainGlobals "_law_entry" = some (some (.ref f__law_entry)))
    (l__law_entry : K.lookup f__law_entry = some ⟨oc__law_entry, od__law_entry, .func (PySem.W.fnOf "_law_entry" "_law_entry" (defArgs s__law_entry) (defBody s__law_entry) (defScope s__law_entry) .none kV__law_entry dc__law_entry pm__law_entry an__law_entry cd__law_entry ct__law_entry), sl__law_entry⟩)
    (c__law_entry : PySem.W.codeIn K cd__law_entry "_law_entry" = true)
    (k__law_entry : PySem.W.keepIn K (.ref f__law_entry) = true)
    (a__law_decided : PySem.W.nsIn K mainGlobals "_law_decided" = some (some (.ref f__law_decided)))
    (l__law_decided : K.lookup f__law_decided = some ⟨oc__law_decided, od__law_decided, .func (PySem.W.fnOf "_law_decided" "_law_decided" (defArgs s__law_decided) (defBody s__law_decided) (defScope s__law_decided) .none kV__law_decided dc__law_decided pm__law_decided an__law_decided cd__law_decided ct__law_decided), sl__law_decided⟩)
    (c__law_decided : PySem.W.codeIn K cd__law_decided "_law_decided" = true)
    (k__law_decided : PySem.W.keepIn K (.ref f__law_decided) = true)
    (a__law_right : PySem.W.nsIn K mainGlobals "_law_right" = some (some (.ref f__law_right)))
    (l__law_right : K.lookup f__law_right = some ⟨oc__law_right, od__law_right, .func (PySem.W.fnOf "_law_right" "_law_right" (defArgs s__law_right) (defBody s__law_right) (defScope s__law_right) .none kV__law_right dc__law_right pm__law_right an__law_right cd__law_right ct__law_right), sl__law_right⟩)
    (c__law_right : PySem.W.codeIn K cd__law_right "_law_right" = true)
    (k__law_right : PySem.W.keepIn K (.ref f__law_right) = true)
    (a_table_text : PySem.W.nsIn K mainGlobals "table_text" = some (some (.ref f_table_text)))
    (l_table_text : K.lookup f_table_text = some ⟨oc_table_text, od_table_text, .func (PySem.W.fnOf "table_text" "table_text" (defArgs s_table_text) (defBody s_table_text) (defScope s_table_text) .none kV_table_text dc_table_text pm_table_text an_table_text cd_table_text ct_table_text), sl_table_text⟩)
    (c_table_text : PySem.W.codeIn K cd_table_text "table_text" = true)
    (k_table_text : PySem.W.keepIn K (.ref f_table_text) = true)
    (a_law : PySem.W.nsIn K mainGlobals "law" = some (some (.ref f_law)))
    (l_law : K.lookup f_law = some ⟨oc_law, od_law, .func (PySem.W.fnOf "law" "law" (defArgs s_law) (defBody s_law) (defScope s_law) .none kV_law dc_law pm_law an_law cd_law ct_law), sl_law⟩)
    (c_law : PySem.W.codeIn K cd_law "law" = true)
    (k_law : PySem.W.keepIn K (.ref f_law) = true)
    (aX_BadText : PySem.W.nsIn K mainGlobals "BadText" = some (some (.ref X_BadText)))
    (aX_CrossError : PySem.W.nsIn K mainGlobals "CrossError" = some (some (.ref X_CrossError)))
    (xi_BadText : PySem.W.findIn K (.ref X_BadText) "__init__" = some (some (.ref f_BadText__init_)))
    (l_BadText__init_ : K.lookup f_BadText__init_ = some ⟨oc_BadText__init_, od_BadText__init_, .func (PySem.W.fnOf "__init__" "BadText.__init__" (defArgs s_BadText__init_) (defBody s_BadText__init_) (defScope s_BadText__init_) .none kV_BadText__init_ dc_BadText__init_ pm_BadText__init_ an_BadText__init_ cd_BadText__init_ ct_BadText__init_), sl_BadText__init_⟩)
    (c_BadText__init_ : PySem.W.codeIn K cd_BadText__init_ "BadText.__init__" = true)
    (k_BadText__init_ : PySem.W.keepIn K (.ref f_BadText__init_) = true)
    (xo_BadText : K.lookup X_BadText = some (excClassObj xnm_BadText xq_BadText X_BadText xN_BadText xbs_BadText [.ref X_CrossError, .type "ValueError", .type "Exception", .type "BaseException", .type "object"] true xsn_BadText xsub_BadText xab_BadText xcol_BadText xdd_BadText x0_BadText x1_BadText x2_BadText x3_BadText x5_BadText "ValueError.__new__"))
    (xs_BadText : PySem.W.findIn K (.ref X_BadText) "__setattr__" = some (some (.builtin "object.__setattr__")))
    (xe_BadText : PySem.W.subIn K (.ref X_BadText) (.type "BaseException") = some true)
    (xy_BadText : PySem.W.typeIn K (.ref X_BadText) = some (.type "type"))
    (xk_BadText : PySem.W.keepIn K (.ref X_BadText) = true)
    (xt_BadText : PySem.W.typeIn K (.ref f_BadText__init_) = some (.type "function"))
    (xn_BadText : PySem.W.findIn K (.ref X_BadText) "line" = some none)
    (rdE_CrossError : PySem.W.readsIn K X_CrossError (.type "type") = true)
    (gaE_CrossError : PySem.W.specialIn K (.ref X_CrossError) "__getattribute__" = some (some (.builtin "type.__getattribute__")))
    (xv_CrossError : PySem.W.findCls K (.ref X_CrossError) (.type "type") "__init__" = some (.val (.builtin "ValueError.__init__")))
    (yg_BadText : PySem.W.findIn K (.ref X_BadText) "__getattribute__" = some (some (.builtin "BaseException.__getattribute__")))
    (yk_BadText : PySem.W.findIn K (.ref X_BadText) "__getattr__" = some none)
    (yd_BadText : PySem.W.hasDictIn K X_BadText = true)
    (ya_BadText : PySem.W.findIn K (.ref X_BadText) "__class__" = some (some (.builtin "object.__class__")))
    (yn_BadText : PySem.W.specialIn K (.builtin "object.__class__") "__get__" = some (some (.builtin "getset_descriptor.__get__")))
    (yt_BadText : PySem.W.takesIn K (.builtin "object.__class__") = some true)
    (ym_BadText : PySem.W.mroIn K X_BadText (.type "object") = some true)
    (zs_BadText_BadText : PySem.W.subIn K (.ref X_BadText) (.ref X_BadText) = some true)
    (zb_BadText : PySem.W.subIn K (.ref X_BadText) (.type "BaseException") = some true)
    (zd_BadText : PySem.W.hasDictIn K X_BadText = true)
    (zt_BadText : PySem.W.typeIn K (.ref X_BadText) = some (.type "type"))
    (zb_CrossError : PySem.W.subIn K (.ref X_CrossError) (.type "BaseException") = some true)
    (zd_CrossError : PySem.W.hasDictIn K X_CrossError = true)
    (zt_CrossError : PySem.W.typeIn K (.ref X_CrossError) = some (.type "type"))
    (zs_BadText_CrossError : PySem.W.subIn K (.ref X_BadText) (.ref X_CrossError) = some true)
    (zs_CrossError_CrossError : PySem.W.subIn K (.ref X_CrossError) (.ref X_CrossError) = some true)
    (zs_BadText_ValueError : PySem.W.subIn K (.ref X_BadText) (.type "ValueError") = some true)
    (pg_Scheme : PySem.W.plainGet K C_Scheme Str.empty = true)
    (hd_Scheme : PySem.W.hasDictIn K C_Scheme = true)
    (po_Scheme : PySem.W.plainOver K C_Scheme = true)
    (sa_Scheme : PySem.W.findIn K (.ref C_Scheme) "__setattr__" = some (some (.builtin "object.__setattr__")))
    (mk_Scheme : PySem.W.makesIn K C_Scheme = true)
    (kc_Scheme : PySem.W.keepIn K (.ref C_Scheme) = true)
    (rd_Scheme : PySem.W.readsIn K C_Scheme (.type "type") = true)
    (ga_Scheme : PySem.W.specialIn K (.ref C_Scheme) "__getattribute__" = some (some (.builtin "type.__getattribute__")))
    (z_ValueError : PySem.W.nsIn K mainGlobals "ValueError" = some none)
    (z_abs : PySem.W.nsIn K mainGlobals "abs" = some none)
    (z_all : PySem.W.nsIn K mainGlobals "all" = some none)
    (z_bool : PySem.W.nsIn K mainGlobals "bool" = some none)
    (z_enumerate : PySem.W.nsIn K mainGlobals "enumerate" = some none)
    (z_int : PySem.W.nsIn K mainGlobals "int" = some none)
    (z_isinstance : PySem.W.nsIn K mainGlobals "isinstance" = some none)
    (z_len : PySem.W.nsIn K mainGlobals "len" = some none)
    (z_list : PySem.W.nsIn K mainGlobals "list" = some none)
    (z_range : PySem.W.nsIn K mainGlobals "range" = some none)
    (z_repr : PySem.W.nsIn K mainGlobals "repr" = some none)
    (z_str : PySem.W.nsIn K mainGlobals "str" = some none)
    (z_tuple : PySem.W.nsIn K mainGlobals "tuple" = some none)
    (ka_BASES' : PySem.W.nsIn K mainGlobals "BASES" = some (some (.ref ka_BASES)))
    (kl_BASES : K.lookup ka_BASES = some ⟨.type "tuple", kod_BASES, .seq #[.int 2 kt_BASES_0, .int 3 kt_BASES_1, .int 5 kt_BASES_2, .int 7 kt_BASES_3] kn_BASES, ksl_BASES⟩)
    (ka_DIGITS' : PySem.W.nsIn K mainGlobals "DIGITS" = some (some (.str "0123456789" kt_DIGITS)))
    (ka_ENTRY_NUMBERS' : PySem.W.nsIn K mainGlobals "ENTRY_NUMBERS" = some (some (.int 3 kt_ENTRY_NUMBERS)))
    (ka_LEAST_ACCOUNTS' : PySem.W.nsIn K mainGlobals "LEAST_ACCOUNTS" = some (some (.int 2 kt_LEAST_ACCOUNTS)))
    (ka_MOST_DIGITS' : PySem.W.nsIn K mainGlobals "MOST_DIGITS" = some (some (.int 10 kt_MOST_DIGITS)))
    (v_Scheme_LARGEST_PRIME : PySem.W.findCls K (.ref C_Scheme) (.type "type") "LARGEST_PRIME" = some (.val (.int 1000000000 t_Scheme_LARGEST_PRIME)))
    (v_Scheme_MOST_ACCOUNTS : PySem.W.findCls K (.ref C_Scheme) (.type "type") "MOST_ACCOUNTS" = some (.val (.int 24 t_Scheme_MOST_ACCOUNTS)))
    (v_Scheme_MOST_NUMBERS : PySem.W.findCls K (.ref C_Scheme) (.type "type") "MOST_NUMBERS" = some (.val (.int 24 t_Scheme_MOST_NUMBERS)))
    (n_Scheme_accounts_used : PySem.W.findIn K (.ref C_Scheme) "accounts_used" = some none)
    (n_Scheme_length_used : PySem.W.findIn K (.ref C_Scheme) "length_used" = some none)
    (n_Scheme_prime_used : PySem.W.findIn K (.ref C_Scheme) "prime_used" = some none)
    : ∃ (fd : FuncData) (G0 : Heap → Gx), (∀ base, (G0 base).P = l.prog ∧ (G0 base).w = w ∧ (G0 base).K = K ∧ (G0 base).mg = mg ∧ (G0 base).base = base) ∧ (∀ (s : Shared) (u : Value), BindsTo s fd ⟨[u], []⟩ [("_law_script", u)]) ∧
      ∀ base : Heap, K.In base → base.Ns mainGlobals mg → FnB (G0 base) 8 fa fd ["_law_script"] (m_law (G0 base)) := by
  have e := hfa.symm.trans (PySem.W.mg_of X N a_law)
  cases e
  refine ⟨PySem.W.fnOf "law" "law" (defArgs s_law) (defBody s_law) (defScope s_law) .none kV_law dc_law pm_law an_law cd_law ct_law, fun base => (⟨l.prog, w, K, mg, base, fun n => ([C_Scheme] : List Addr).getD n 0, fun n => ([["prime_used", "accounts_used", "length_used"]] : List (List Str)).getD n [], fun n => ([X_BadText, X_CrossError] : List Addr).getD n 0, fun n => (["line", ""] : List Str).getD n "", none⟩ : Gx), fun base => ⟨rfl, rfl, rfl, rfl, rfl⟩, fun s v => .of_eq rfl, fun base _ _ => Txt.B_law (G := (⟨l.prog, w, K, mg, base, fun n => ([C_Scheme] : List Addr).getD n 0, fun n => ([["prime_used", "accounts_used", "length_used"]] : List (List Str)).getD n [], fun n => ([X_BadText, X_CrossError] : List Addr).getD n 0, fun n => (["line", ""] : List Str).getD n "", none⟩ : Gx)) {
    f__law_source := f__law_source
    d__law_source := PySem.W.fnOf "_law_source" "_law_source" (defArgs s__law_source) (defBody s__law_source) (defScope s__law_source) .none kV__law_source dc__law_source pm__law_source an__law_source cd__law_source ct__law_source
    F__law_source := fun_mk (st := s__law_source) l__law_source c__law_source k__law_source
    g__law_source := PySem.W.mg_of X N a__law_source
    f__law_random := f__law_random
    d__law_random := PySem.W.fnOf "_law_random" "_law_random" (defArgs s__law_random) (defBody s__law_random) (defScope s__law_random) .none kV__law_random dc__law_random pm__law_random an__law_random cd__law_random ct__law_random
    F__law_random := fun_mk (st := s__law_random) l__law_random c__law_random k__law_random
    g__law_random := PySem.W.mg_of X N a__law_random
    f__law_choice := f__law_choice
    d__law_choice := PySem.W.fnOf "_law_choice" "_law_choice" (defArgs s__law_choice) (defBody s__law_choice) (defScope s__law_choice) .none kV__law_choice dc__law_choice pm__law_choice an__law_choice cd__law_choice ct__law_choice
    F__law_choice := fun_mk (st := s__law_choice) l__law_choice c__law_choice k__law_choice
    g__law_choice := PySem.W.mg_of X N a__law_choice
    f__law_sizes := f__law_sizes
    d__law_sizes := PySem.W.fnOf "_law_sizes" "_law_sizes" (defArgs s__law_sizes) (defBody s__law_sizes) (defScope s__law_sizes) .none kV__law_sizes dc__law_sizes pm__law_sizes an__law_sizes cd__law_sizes ct__law_sizes
    F__law_sizes := fun_mk (st := s__law_sizes) l__law_sizes c__law_sizes k__law_sizes
    g__law_sizes := PySem.W.mg_of X N a__law_sizes
    f__law_wording := f__law_wording
    d__law_wording := PySem.W.fnOf "_law_wording" "_law_wording" (defArgs s__law_wording) (defBody s__law_wording) (defScope s__law_wording) .none kV__law_wording dc__law_wording pm__law_wording an__law_wording cd__law_wording ct__law_wording
    F__law_wording := fun_mk (st := s__law_wording) l__law_wording c__law_wording k__law_wording
    g__law_wording := PySem.W.mg_of X N a__law_wording
    f_is_between := f_is_between
    d_is_between := PySem.W.fnOf "is_between" "is_between" (defArgs s_is_between) (defBody s_is_between) (defScope s_is_between) .none kV_is_between dc_is_between pm_is_between an_is_between cd_is_between ct_is_between
    F_is_between := fun_mk (st := s_is_between) l_is_between c_is_between k_is_between
    g_is_between := PySem.W.mg_of X N a_is_between
    f_reduced_modulo := f_reduced_modulo
    d_reduced_modulo := PySem.W.fnOf "reduced_modulo" "reduced_modulo" (defArgs s_reduced_modulo) (defBody s_reduced_modulo) (defScope s_reduced_modulo) .none kV_reduced_modulo dc_reduced_modulo pm_reduced_modulo an_reduced_modulo cd_reduced_modulo ct_reduced_modulo
    F_reduced_modulo := fun_mk (st := s_reduced_modulo) l_reduced_modulo c_reduced_modulo k_reduced_modulo
    g_reduced_modulo := PySem.W.mg_of X N a_reduced_modulo
    f_power_of := f_power_of
    d_power_of := PySem.W.fnOf "power_of" "power_of" (defArgs s_power_of) (defBody s_power_of) (defScope s_power_of) .none kV_power_of dc_power_of pm_power_of an_power_of cd_power_of ct_power_of
    F_power_of := fun_mk (st := s_power_of) l_power_of c_power_of k_power_of
    g_power_of := PySem.W.mg_of X N a_power_of
    f_is_probable := f_is_probable
    d_is_probable := PySem.W.fnOf "is_probable" "is_probable" (defArgs s_is_probable) (defBody s_is_probable) (defScope s_is_probable) .none kV_is_probable dc_is_probable pm_is_probable an_is_probable cd_is_probable ct_is_probable
    F_is_probable := fun_mk (st := s_is_probable) l_is_probable c_is_probable k_is_probable
    g_is_probable := PySem.W.mg_of X N a_is_probable
    f_is_odd_prime := f_is_odd_prime
    d_is_odd_prime := PySem.W.fnOf "is_odd_prime" "is_odd_prime" (defArgs s_is_odd_prime) (defBody s_is_odd_prime) (defScope s_is_odd_prime) .none kV_is_odd_prime dc_is_odd_prime pm_is_odd_prime an_is_odd_prime cd_is_odd_prime ct_is_odd_prime
    F_is_odd_prime := fun_mk (st := s_is_odd_prime) l_is_odd_prime c_is_odd_prime k_is_odd_prime
    g_is_odd_prime := PySem.W.mg_of X N a_is_odd_prime
    f_Scheme_is_prime := f_Scheme_is_prime
    d_Scheme_is_prime := PySem.W.fnOf "is_prime" "Scheme.is_prime" (defArgs s_Scheme_is_prime) (defBody s_Scheme_is_prime) (defScope s_Scheme_is_prime) .none kV_Scheme_is_prime dc_Scheme_is_prime pm_Scheme_is_prime an_Scheme_is_prime cd_Scheme_is_prime ct_Scheme_is_prime
    F_Scheme_is_prime := fun_mk (st := s_Scheme_is_prime) l_Scheme_is_prime c_Scheme_is_prime k_Scheme_is_prime
    f_Scheme__init_ := f_Scheme__init_
    d_Scheme__init_ := PySem.W.fnOf "__init__" "Scheme.__init__" (defArgs s_Scheme__init_) (defBody s_Scheme__init_) (defScope s_Scheme__init_) .none kV_Scheme__init_ dc_Scheme__init_ pm_Scheme__init_ an_Scheme__init_ cd_Scheme__init_ ct_Scheme__init_
    F_Scheme__init_ := fun_mk (st := s_Scheme__init_) l_Scheme__init_ c_Scheme__init_ k_Scheme__init_
    f__law_any_table := f__law_any_table
    d__law_any_table := PySem.W.fnOf "_law_any_table" "_law_any_table" (defArgs s__law_any_table) (defBody s__law_any_table) (defScope s__law_any_table) .none kV__law_any_table dc__law_any_table pm__law_any_table an__law_any_table cd__law_any_table ct__law_any_table
    F__law_any_table := fun_mk (st := s__law_any_table) l__law_any_table c__law_any_table k__law_any_table
    g__law_any_table := PySem.W.mg_of X N a__law_any_table
    f__law_odd_line := f__law_odd_line
    d__law_odd_line := PySem.W.fnOf "_law_odd_line" "_law_odd_line" (defArgs s__law_odd_line) (defBody s__law_odd_line) (defScope s__law_odd_line) .none kV__law_odd_line dc__law_odd_line pm__law_odd_line an__law_odd_line cd__law_odd_line ct__law_odd_line
    F__law_odd_line := fun_mk (st := s__law_odd_line) l__law_odd_line c__law_odd_line k__law_odd_line
    g__law_odd_line := PySem.W.mg_of X N a__law_odd_line
    f__law_bent := f__law_bent
    d__law_bent := PySem.W.fnOf "_law_bent" "_law_bent" (defArgs s__law_bent) (defBody s__law_bent) (defScope s__law_bent) .none kV__law_bent dc__law_bent pm__law_bent an__law_bent cd__law_bent ct__law_bent
    F__law_bent := fun_mk (st := s__law_bent) l__law_bent c__law_bent k__law_bent
    g__law_bent := PySem.W.mg_of X N a__law_bent
    f_integer_in := f_integer_in
    d_integer_in := PySem.W.fnOf "integer_in" "integer_in" (defArgs s_integer_in) (defBody s_integer_in) (defScope s_integer_in) .none kV_integer_in dc_integer_in pm_integer_in an_integer_in cd_integer_in ct_integer_in
    F_integer_in := fun_mk (st := s_integer_in) l_integer_in c_integer_in k_integer_in
    g_integer_in := PySem.W.mg_of X N a_integer_in
    f_integers_in := f_integers_in
    d_integers_in := PySem.W.fnOf "integers_in" "integers_in" (defArgs s_integers_in) (defBody s_integers_in) (defScope s_integers_in) .none kV_integers_in dc_integers_in pm_integers_in an_integers_in cd_integers_in ct_integers_in
    F_integers_in := fun_mk (st := s_integers_in) l_integers_in c_integers_in k_integers_in
    g_integers_in := PySem.W.mg_of X N a_integers_in
    f_is_integer := f_is_integer
    d_is_integer := PySem.W.fnOf "is_integer" "is_integer" (defArgs s_is_integer) (defBody s_is_integer) (defScope s_is_integer) .none kV_is_integer dc_is_integer pm_is_integer an_is_integer cd_is_integer ct_is_integer
    F_is_integer := fun_mk (st := s_is_integer) l_is_integer c_is_integer k_is_integer
    g_is_integer := PySem.W.mg_of X N a_is_integer
    f_Scheme_largest_amount := f_Scheme_largest_amount
    d_Scheme_largest_amount := PySem.W.fnOf "largest_amount" "Scheme.largest_amount" (defArgs s_Scheme_largest_amount) (defBody s_Scheme_largest_amount) (defScope s_Scheme_largest_amount) .none kV_Scheme_largest_amount dc_Scheme_largest_amount pm_Scheme_largest_amount an_Scheme_largest_amount cd_Scheme_largest_amount ct_Scheme_largest_amount
    F_Scheme_largest_amount := fun_mk (st := s_Scheme_largest_amount) l_Scheme_largest_amount c_Scheme_largest_amount k_Scheme_largest_amount
    f_is_reduced := f_is_reduced
    d_is_reduced := PySem.W.fnOf "is_reduced" "is_reduced" (defArgs s_is_reduced) (defBody s_is_reduced) (defScope s_is_reduced) .none kV_is_reduced dc_is_reduced pm_is_reduced an_is_reduced cd_is_reduced ct_is_reduced
    F_is_reduced := fun_mk (st := s_is_reduced) l_is_reduced c_is_reduced k_is_reduced
    g_is_reduced := PySem.W.mg_of X N a_is_reduced
    f_Scheme_accounts := f_Scheme_accounts
    d_Scheme_accounts := PySem.W.fnOf "accounts" "Scheme.accounts" (defArgs s_Scheme_accounts) (defBody s_Scheme_accounts) (defScope s_Scheme_accounts) .none kV_Scheme_accounts dc_Scheme_accounts pm_Scheme_accounts an_Scheme_accounts cd_Scheme_accounts ct_Scheme_accounts
    F_Scheme_accounts := fun_mk (st := s_Scheme_accounts) l_Scheme_accounts c_Scheme_accounts k_Scheme_accounts
    f_entry_in := f_entry_in
    d_entry_in := PySem.W.fnOf "entry_in" "entry_in" (defArgs s_entry_in) (defBody s_entry_in) (defScope s_entry_in) .none kV_entry_in dc_entry_in pm_entry_in an_entry_in cd_entry_in ct_entry_in
    F_entry_in := fun_mk (st := s_entry_in) l_entry_in c_entry_in k_entry_in
    g_entry_in := PySem.W.mg_of X N a_entry_in
    f_read_table_text := f_read_table_text
    d_read_table_text := PySem.W.fnOf "read_table_text" "read_table_text" (defArgs s_read_table_text) (defBody s_read_table_text) (defScope s_read_table_text) .none kV_read_table_text dc_read_table_text pm_read_table_text an_read_table_text cd_read_table_text ct_read_table_text
    F_read_table_text := fun_mk (st := s_read_table_text) l_read_table_text c_read_table_text k_read_table_text
    g_read_table_text := PySem.W.mg_of X N a_read_table_text
    f__law_heard := f__law_heard
    d__law_heard := PySem.W.fnOf "_law_heard" "_law_heard" (defArgs s__law_heard) (defBody s__law_heard) (defScope s__law_heard) .none kV__law_heard dc__law_heard pm__law_heard an__law_heard cd__law_heard ct__law_heard
    F__law_heard := fun_mk (st := s__law_heard) l__law_heard c__law_heard k__law_heard
    g__law_heard := PySem.W.mg_of X N a__law_heard
    f__law_integer := f__law_integer
    d__law_integer := PySem.W.fnOf "_law_integer" "_law_integer" (defArgs s__law_integer) (defBody s__law_integer) (defScope s__law_integer) .none kV__law_integer dc__law_integer pm__law_integer an__law_integer cd__law_integer ct__law_integer
    F__law_integer := fun_mk (st := s__law_integer) l__law_integer c__law_integer k__law_integer
    g__law_integer := PySem.W.mg_of X N a__law_integer
    f__law_entry := f__law_entry
    d__law_entry := PySem.W.fnOf "_law_entry" "_law_entry" (defArgs s__law_entry) (defBody s__law_entry) (defScope s__law_entry) .none kV__law_entry dc__law_entry pm__law_entry an__law_entry cd__law_entry ct__law_entry
    F__law_entry := fun_mk (st := s__law_entry) l__law_entry c__law_entry k__law_entry
    g__law_entry := PySem.W.mg_of X N a__law_entry
    f__law_decided := f__law_decided
    d__law_decided := PySem.W.fnOf "_law_decided" "_law_decided" (defArgs s__law_decided) (defBody s__law_decided) (defScope s__law_decided) .none kV__law_decided dc__law_decided pm__law_decided an__law_decided cd__law_decided ct__law_decided
    F__law_decided := fun_mk (st := s__law_decided) l__law_decided c__law_decided k__law_decided
    g__law_decided := PySem.W.mg_of X N a__law_decided
    f__law_right := f__law_right
    d__law_right := PySem.W.fnOf "_law_right" "_law_right" (defArgs s__law_right) (defBody s__law_right) (defScope s__law_right) .none kV__law_right dc__law_right pm__law_right an__law_right cd__law_right ct__law_right
    F__law_right := fun_mk (st := s__law_right) l__law_right c__law_right k__law_right
    g__law_right := PySem.W.mg_of X N a__law_right
    f_table_text := f_table_text
    d_table_text := PySem.W.fnOf "table_text" "table_text" (defArgs s_table_text) (defBody s_table_text) (defScope s_table_text) .none kV_table_text dc_table_text pm_table_text an_table_text cd_table_text ct_table_text
    F_table_text := fun_mk (st := s_table_text) l_table_text c_table_text k_table_text
    g_table_text := PySem.W.mg_of X N a_table_text
    f_law := fa
    d_law := PySem.W.fnOf "law" "law" (defArgs s_law) (defBody s_law) (defScope s_law) .none kV_law dc_law pm_law an_law cd_law ct_law
    F_law := fun_mk (st := s_law) l_law c_law k_law
    g_law := PySem.W.mg_of X N a_law
    cl_Scheme := ⟨pg_Scheme, hd_Scheme, po_Scheme, sa_Scheme⟩
    g_Scheme := PySem.W.mg_of X N aC_Scheme
    fn_Scheme := rfl
    mk_Scheme := ⟨mk_Scheme, m_Scheme__init_, i_Scheme__init_, kc_Scheme⟩
    rd_Scheme := ⟨rd_Scheme, ga_Scheme⟩
    cu := rfl
    ge_BadText := PySem.W.mg_of X N aX_BadText
    ge_CrossError := PySem.W.mg_of X N aX_CrossError
    f_BadText__init_ := f_BadText__init_
    d_BadText__init_ := PySem.W.fnOf "__init__" "BadText.__init__" (defArgs s_BadText__init_) (defBody s_BadText__init_) (defScope s_BadText__init_) .none kV_BadText__init_ dc_BadText__init_ pm_BadText__init_ an_BadText__init_ cd_BadText__init_ ct_BadText__init_
    F_BadText__init_ := fun_mk (st := s_BadText__init_) l_BadText__init_ c_BadText__init_ k_BadText__init_
    ox_BadText := ⟨⟨_, _, _, _, _, _, _, _, _, _, _, _, _, _, _, xo_BadText, rfl⟩, xs_BadText, xe_BadText, xy_BadText, xk_BadText⟩
    xi_BadText := xi_BadText
    xt_BadText := xt_BadText
    xf_BadText := rfl
    xn_BadText := xn_BadText
    rdE_CrossError := ⟨rdE_CrossError, gaE_CrossError⟩
    xv_CrossError := xv_CrossError
    xfc_BadText := ⟨yg_BadText, yk_BadText, xe_BadText, yd_BadText⟩
    xec_BadText := ⟨yg_BadText, yk_BadText, xe_BadText, yd_BadText, ya_BadText, yn_BadText, yt_BadText, ym_BadText⟩
    xm_BadText_BadText := PySem.W.exm_ref zb_BadText zd_BadText zt_BadText zs_BadText_BadText
    xk_BadText_CrossError := (DL.kit_own zd_CrossError zt_CrossError zs_BadText_CrossError zs_CrossError_CrossError)
    xk_BadText_ValueError := (DL.kit_bi (by decide +kernel) zs_BadText_ValueError)
    z_ValueError := PySem.W.mg_none_of X N z_ValueError
    z_abs := PySem.W.mg_none_of X N z_abs
    z_all := PySem.W.mg_none_of X N z_all
    z_bool := PySem.W.mg_none_of X N z_bool
    z_enumerate := PySem.W.mg_none_of X N z_enumerate
    z_int := PySem.W.mg_none_of X N z_int
    z_isinstance := PySem.W.mg_none_of X N z_isinstance
    z_len := PySem.W.mg_none_of X N z_len
    z_list := PySem.W.mg_none_of X N z_list
    z_range := PySem.W.mg_none_of X N z_range
    z_repr := PySem.W.mg_none_of X N z_repr
    z_str := PySem.W.mg_none_of X N z_str
    z_tuple := PySem.W.mg_none_of X N z_tuple
    ka_BASES := ka_BASES
    kv_BASES := [.int 2, .int 3, .int 5, .int 7]
    kg_BASES := PySem.W.mg_of X N ka_BASES'
    kw_BASES := ⟨_, _, _, kl_BASES, rfl, rfl, show (4 : Nat) ≤ sizeLine by decide, .cons ⟨_, rfl⟩ (.cons ⟨_, rfl⟩ (.cons ⟨_, rfl⟩ (.cons ⟨_, rfl⟩ (.nil))))⟩
    kr_BASES := fun _ _ _ => .cons (.int _) (.cons (.int _) (.cons (.int _) (.cons (.int _) (.nil))))
    kt_DIGITS := kt_DIGITS
    kg_DIGITS := PySem.W.mg_of X N ka_DIGITS'
    kt_ENTRY_NUMBERS := kt_ENTRY_NUMBERS
    kg_ENTRY_NUMBERS := PySem.W.mg_of X N ka_ENTRY_NUMBERS'
    kt_LEAST_ACCOUNTS := kt_LEAST_ACCOUNTS
    kg_LEAST_ACCOUNTS := PySem.W.mg_of X N ka_LEAST_ACCOUNTS'
    kt_MOST_DIGITS := kt_MOST_DIGITS
    kg_MOST_DIGITS := PySem.W.mg_of X N ka_MOST_DIGITS'
    t_Scheme_LARGEST_PRIME := t_Scheme_LARGEST_PRIME
    v_Scheme_LARGEST_PRIME := ⟨v_Scheme_LARGEST_PRIME, ⟨_, rfl⟩⟩
    t_Scheme_MOST_ACCOUNTS := t_Scheme_MOST_ACCOUNTS
    v_Scheme_MOST_ACCOUNTS := ⟨v_Scheme_MOST_ACCOUNTS, ⟨_, rfl⟩⟩
    t_Scheme_MOST_NUMBERS := t_Scheme_MOST_NUMBERS
    v_Scheme_MOST_NUMBERS := ⟨v_Scheme_MOST_NUMBERS, ⟨_, rfl⟩⟩
    n_Scheme_accounts_used := n_Scheme_accounts_used
    n_Scheme_length_used := n_Scheme_length_used
    n_Scheme_prime_used := n_Scheme_prime_used
    pr_Scheme_accounts := pr_Scheme_accounts
    p_Scheme_accounts := ⟨m_Scheme_accounts, pg_Scheme_accounts, pt_Scheme_accounts, _, px_Scheme_accounts⟩
    pr_Scheme_largest_amount := pr_Scheme_largest_amount
    p_Scheme_largest_amount := ⟨m_Scheme_largest_amount, pg_Scheme_largest_amount, pt_Scheme_largest_amount, _, px_Scheme_largest_amount⟩
    sp_Scheme_is_prime := pr_Scheme_is_prime
    st_Scheme_is_prime := ⟨m_Scheme_is_prime, ⟨_, px_Scheme_is_prime⟩, k_Scheme_is_prime⟩
  }⟩
end K52
open PySem PySem.W PyProof.Rows
set_option maxRecDepth 100000 in
set_option maxHeartbeats 0 in
theorem PySem.Challenge.cw_crossnought_k52_texts_of_tables_holds : PySem.Challenge.rw_crossnought_k52_texts_of_tables.Holds := by
  w_on; o_law; k_head; (case hw => w_witness2)
  k_fill
  refine DL.walk_dl (l := PySem.Challenge.rw_crossnought_k52_texts_of_tables) (n := 63) (k := 8) (x := "_law_script") (m := fun G => K52.m_law G) rfl (by decide) rfl ⟨rfl, by decide, by decide⟩ (fun w h Y => PySem.W.kIn_of Y) (fun G => K52.law_tells) ?F
  case F =>
    intro w mg fa h KX G hmg
    refine' K52.all_mk KX G hmg ?h0 ?h1 ?h2 ?h3 ?h4 ?h5 ?h6 ?h7 ?h8 ?h9 ?h10 ?h11 ?h12 ?h13 ?h14 ?h15 ?h16 ?h17 ?h18 ?h19 ?h20 ?h21 ?h22 ?h23 ?h24 ?h25 ?h26 ?h27 ?h28 ?h29 ?h30 ?h31 ?h32 ?h33 ?h34 ?h35 ?h36 ?h37 ?h38 ?h39 ?h40 ?h41 ?h42 ?h43 ?h44 ?h45 ?h46 ?h47 ?h48 ?h49 ?h50 ?h51 ?h52 ?h53 ?h54 ?h55 ?h56 ?h57 ?h58 ?h59 ?h60 ?h61 ?h62 ?h63 ?h64 ?h65 ?h66 ?h67 ?h68 ?h69 ?h70 ?h71 ?h72 ?h73 ?h74 ?h75 ?h76 ?h77 ?h78 ?h79 ?h80 ?h81 ?h82 ?h83 ?h84 ?h85 ?h86 ?h87 ?h88 ?h89 ?h90 ?h91 ?h92 ?h93 ?h94 ?h95 ?h96 ?h97 ?h98 ?h99 ?h100 ?h101 ?h102 ?h103 ?h104 ?h105 ?h106 ?h107 ?h108 ?h109 ?h110 ?h111 ?h112 ?h113 ?h114 ?h115 ?h116 ?h117 ?h118 ?h119 ?h120 ?h121 ?h122 ?h123 ?h124 ?h125 ?h126 ?h127 ?h128 ?h129 ?h130 ?h131 ?h132 ?h133 ?h134 ?h135 ?h136 ?h137 ?h138 ?h139 ?h140 ?h141 ?h142 ?h143 ?h144 ?h145 ?h146 ?h147 ?h148 ?h149 ?h150 ?h151 ?h152 ?h153 ?h154 ?h155 ?h156 ?h157 ?h158 ?h159 ?h160 ?h161 ?h162 ?h163 ?h164 ?h165 ?h166 ?h167 ?h168 ?h169 ?h170 ?h171 ?h172 ?h173 ?h174 ?h175 ?h176 ?h177 ?h178 ?h179 ?h180 ?h181 ?h182 ?h183 ?h184 ?h185 ?h186 ?h187 ?h188 ?h189 ?h190 ?h191 ?h192 ?h193 ?h194
    (case h0 => k_is)
    (case h1 => k_is)
    (case h2 => k_is)
    (case h3 => k_is)
    (case h4 => k_is)
    (case h5 => k_is)
    (case h6 => k_is)
    (case h7 => k_is)
    (case h8 => k_is)
    (case h9 => k_is)
    (case h10 => k_is)
    (case h11 => k_is)
    (case h12 => k_is)
    (case h13 => k_is)
    (case h14 => k_is)
    (case h15 => k_is)
    (case h16 => k_is)
    (case h17 => k_is)
    (case h18 => k_is)
    (case h19 => k_is)
    (case h20 => k_is)
    (case h21 => k_is)
    (case h22 => k_is)
    (case h23 => k_is)
    (case h24 => k_is)
    (case h25 => k_is)
    (case h26 => k_is)
    (case h27 => k_is)
    (case h28 => k_is)
    (case h29 => k_is)
    (case h30 => k_is)
    (case h31 => k_is)
    (case h32 => k_is)
    (case h33 => k_is)
    (case h34 => k_is)
    (case h35 => k_is)
    (case h36 => k_is)
    (case h37 => k_is)
    (case h38 => k_is)
    (case h39 => k_is)
    (case h40 => k_is)
    (case h41 => k_is)
    (case h42 => k_is)
    (case h43 => k_is)
    (case h44 => k_is)
    (case h45 => k_is)
    (case h46 => k_is)
    (case h47 => k_is)
    (case h48 => k_is)
    (case h49 => k_is)
    (case h50 => k_is)
    (case h51 => k_is)
    (case h52 => k_is)
    (case h53 => k_is)
    (case h54 => k_is)
    (case h55 => k_is)
    (case h56 => k_is)
    (case h57 => k_is)
    (case h58 => k_is)
    (case h59 => k_is)
    (case h60 => k_is)
    (case h61 => k_is)
    (case h62 => k_is)
    (case h63 => k_is)
    (case h64 => k_is)
    (case h65 => k_is)
    (case h66 => k_is)
    (case h67 => k_is)
    (case h68 => k_is)
    (case h69 => k_is)
    (case h70 => k_is)
    (case h71 => k_is)
    (case h72 => k_is)
    (case h73 => k_is)
    (case h74 => k_is)
    (case h75 => k_is)
    (case h76 => k_is)
    (case h77 => k_is)
    (case h78 => k_is)
    (case h79 => k_is)
    (case h80 => k_is)
    (case h81 => k_is)
    (case h82 => k_is)
    (case h83 => k_is)
    (case h84 => k_is)
    (case h85 => k_is)
    (case h86 => k_is)
    (case h87 => k_is)
    (case h88 => k_is)
    (case h89 => k_is)
    (case h90 => k_is)
    (case h91 => k_is)
    (case h92 => k_is)
    (case h93 => k_is)
    (case h94 => k_is)
    (case h95 => k_is)
    (case h96 => k_is)
    (case h97 => k_is)
    (case h98 => k_is)
    (case h99 => k_is)
    (case h100 => k_is)
    (case h101 => k_is)
    (case h102 => k_is)
    (case h103 => k_is)
    (case h104 => k_is)
    (case h105 => k_is)
    (case h106 => k_is)
    (case h107 => k_is)
    (case h108 => k_is)
    (case h109 => k_is)
    (case h110 => k_is)
    (case h111 => k_is)
    (case h112 => k_is)
    (case h113 => k_is)
    (case h114 => k_is)
    (case h115 => k_is)
    (case h116 => k_is)
    (case h117 => k_is)
    (case h118 => k_is)
    (case h119 => k_is)
    (case h120 => k_is)
    (case h121 => k_is)
    (case h122 => k_is)
    (case h123 => k_is)
    (case h124 => k_is)
    (case h125 => k_is)
    (case h126 => k_is)
    (case h127 => k_is)
    (case h128 => k_is)
    (case h129 => k_is)
    (case h130 => k_is)
    (case h131 => k_is)
    (case h132 => k_is)
    (case h133 => k_is)
    (case h134 => k_is)
    (case h135 => k_is)
    (case h136 => k_is)
    (case h137 => k_is)
    (case h138 => k_is)
    (case h139 => k_is)
    (case h140 => k_is)
    (case h141 => k_is)
    (case h142 => k_is)
    (case h143 => k_is)
    (case h144 => k_is)
    (case h145 => k_is)
    (case h146 => k_is)
    (case h147 => k_is)
    (case h148 => k_is)
    (case h149 => k_is)
    (case h150 => k_is)
    (case h151 => k_is)
    (case h152 => k_is)
    (case h153 => k_is)
    (case h154 => k_is)
    (case h155 => k_is)
    (case h156 => k_is)
    (case h157 => k_is)
    (case h158 => k_is)
    (case h159 => k_is)
    (case h160 => k_is)
    (case h161 => k_is)
    (case h162 => k_is)
    (case h163 => k_is)
    (case h164 => k_is)
    (case h165 => k_is)
    (case h166 => k_is)
    (case h167 => k_is)
    (case h168 => k_is)
    (case h169 => k_is)
    (case h170 => k_is)
    (case h171 => k_is)
    (case h172 => k_is)
    (case h173 => k_is)
    (case h174 => k_is)
    (case h175 => k_is)
    (case h176 => k_is)
    (case h177 => k_is)
    (case h178 => k_is)
    (case h179 => k_is)
    (case h180 => k_is)
    (case h181 => k_is)
    (case h182 => k_is)
    (case h183 => k_is)
    (case h184 => k_is)
    (case h185 => k_is)
    (case h186 => k_is)
    (case h187 => k_is)
    (case h188 => k_is)
    (case h189 => k_is)
    (case h190 => k_is)
    (case h191 => k_is)
    (case h192 => k_is)
    (case h193 => k_is)
    (case h194 => k_is)
