import PyProof.Rows.All
import Wide.All
import OpenK.AllK
import Wide.FinOn
import HandS.ForMost
import HandS.Exc
import HandS.Flow
import HandS.IsInst
import HandS.TupAny
import HandS.TupLe
import HandS.TupMul
import HandS.Wide
import HandS.Deep
import HandS.NoneIn
import HandS.Conv
import HandS.Defaults
import HandS.WordsExc
import HandS.ExcIs
import HandS.Zip
import HandS.DictComp
import KE.KDictKeyed
import KE.KDictDisplayH
import KE.KeyNested
import KE.SortData
import KE.LtData
import HandS.TupLen
import HandS.WordsDict
import KE.DataMinMax
import KE.GoesEnum
import KE.GoesMore
import KE.KDictCopyH
import HandS.SortRule
import HandS.TryOnly
import HandS.HeadHook1
import HandS.Style
import HandS.HeadHook2
import HandS.HeadHook4
import HandS.HeadEnd
import HandS.Head0
import HandS.Head1
import HandS.Head2
import PySem.Challenge.RW_namerooms_k05_whole_things_counted
set_option Elab.async false
set_option linter.all false
set_option maxRecDepth 100000
set_option maxHeartbeats 0
set_option exponentiation.threshold 2000
/-! Data trees, the logical heap, and how they stand for what the hand layer tracks. -/
namespace Nr
open PySem PySem.Spec PyProof.Rows L2

/-- a value as data: tuples and lists that nobody changes are trees; what may change is told by its number -/
inductive D where
  | non | bl (b : Bool) | int (i : Int) | str (x : Str)
  | tup (xs : List D) | lst (xs : List D) | scr (xs : List D)
  | dct (t : Bool) (ks vs : List D)
  | obj (i : Nat) | exc (c : Str)

/-- what stands at a number -/
inductive O where
  | dead | lst (xs : List D) | dct (t : Bool) (ks vs : List D) | ins (c : Str) (fs : List (Str × D))

abbrev Hl := List O
abbrev Ds := List (Option D)

def O.live : O → Prop
  | .dead => False
  | _ => True
def Alive (L : Hl) (i : Nat) : Prop := ∃ o, L[i]? = some o ∧ o.live
theorem Alive.lt {L : Hl} {i : Nat} (h : Alive L i) : i < L.length := by
  obtain ⟨o, h, _⟩ := h
  exact (List.getElem?_eq_some_iff.mp h).1

/-- the written part and the names of the module -/
structure Wd where
  P : Program
  w : World
  K : PySem.W.Frag
  mg : Str → Option Value

/-- a datum as a key of a dict -/
def nkey : D → NestedKey
  | .non => .none
  | .bl b => .num (if b then 1 else 0)
  | .int i => .num i
  | .str x => .text x
  | .tup xs => .tup (nkeys xs)
  | _ => .none
where nkeys : List D → List NestedKey
  | [] => []
  | x :: xs => nkey x :: nkeys xs

/-- a flat key -/
def fkey : D → Option Key
  | .int i => some (.inl i)
  | .str x => some (.inr x)
  | _ => none

/-- a key of a dict: an int or a text; a tuple -/
def keyN : Nat → D → Bool
  | _, .non => true
  | _, .bl _ => true
  | _, .int _ => true
  | _, .str _ => true
  | n + 1, .tup xs => xs.all (keyN n)
  | _, _ => false
def keyOk : Bool → D → Bool
  | false, .int _ => true
  | false, .str _ => true
  | true, .tup xs => keyN 8 (.tup xs)
  | _, _ => false

/-- at a stands a dict: the keys' values kv (they stand for kd), the values vv -/
def DctAt (W : Wd) (H : Hp) (a : Addr) : Bool → List V → List D → List V → Prop
  | false, kv, kd, vv => ∃ kvs : List (Key × V), H a = some (.dK kvs) ∧ kv = kvs.map (fun p => kV p.1) ∧ vv = kvs.map (·.2) ∧ (kvs.map (·.1)).Nodup ∧ kd.map fkey = kvs.map (fun p => some p.1)
  | true, kv, kd, vv => ∃ (xs : List (NestedKey × Addr × Value)) (ob : Obj) (es : Array DictEntry) (ep : Nat), H a = some (.ext fun h => h.get? a = some ob) ∧ (a == sysModules) = false ∧ xs.length ≤ sizeLine ∧
      ob.ExactDict ∧ ob.data = .dict es ep ∧ es.toList = xs.map (entryOfKey (nestedKind W.P W.w)) ∧ (xs.map (·.1)).Nodup ∧
      kv = xs.map (fun x => V.ref x.2.1) ∧ kd.map nkey = xs.map (·.1) ∧ Vals vv (xs.map (·.2.2)) ∧ kd.all (keyOk true) = true

/-- a tuple of the written part -/
def KTup (K : PySem.W.Frag) (a : Addr) (vs : List V) : Prop :=
  ∃ (o : Obj) (its : Array Value) (n : Nat), K.lookup a = some o ∧ o.cls = .type "tuple" ∧ o.data = .seq its n ∧ its.size ≤ sizeLine ∧ Vals vs its.toList
/-- a list of the written part -/
def KLst (K : PySem.W.Frag) (a : Addr) (vs : List V) : Prop :=
  ∃ (o : Obj) (its : Array Value) (n : Nat), K.lookup a = some o ∧ o.cls = .type "list" ∧ o.dict = none ∧ o.data = .seq its n ∧ its.size ≤ sizeLine ∧ Vals vs its.toList
/-- the numbers' places; places that nothing but the one that reserved them may use -/
structure Nb where
  m : Nat → Addr
  r : List Addr
def ApN (m : Nb) (L : Hl) (a : Addr) : Prop := ∀ i, Alive L i → m.m i ≠ a
def Apart (m : Nb) (L : Hl) (a : Addr) : Prop := ApN m L a ∧ a ∉ m.r

/-- an exception object that is held -/
def ExcAt (W : Wd) (H : Hp) (a : Addr) (c : Str) : Prop := ∃ C : Addr, W.mg c = some (.ref C) ∧ H a = some (.ext fun h => ∃ o vs, h.get? a = some o ∧ o.cls = .ref C ∧ o.dict = none ∧ o.data = .fields vs)

mutual
inductive RepV (W : Wd) (m : Nb) (L : Hl) (H : Hp) : V → D → Prop
  | non : RepV W m L H .non .non
  | bl (b : Bool) : RepV W m L H (.bl b) (.bl b)
  | int (i : Int) : RepV W m L H (.int i) (.int i)
  | str (x : Str) : PyData.strOk x = true → RepV W m L H (.str x) (.str x)
  | tup {a : Addr} {vs : List V} {ds : List D} : Rd H a (.tup vs) → RepVs W m L H vs ds → Apart m L a → RepV W m L H (.ref a) (.tup ds)
  | tupK {a : Addr} {vs : List V} {ds : List D} : KTup W.K a vs → RepVs W m L H vs ds → RepV W m L H (.ref a) (.tup ds)
  | lst {a : Addr} {vs : List V} {ds : List D} : H a = some (.lst vs) → RepVs W m L H vs ds → Apart m L a → RepV W m L H (.ref a) (.lst ds)
  | scr {a : Addr} {o : Obj} {vs : List V} {ds : List D} : H a = some (.frz o (.lst vs)) → RepVs W m L H vs ds → Apart m L a → RepV W m L H (.ref a) (.scr ds)
  | scrK {a : Addr} {vs : List V} {ds : List D} : KLst W.K a vs → RepVs W m L H vs ds → RepV W m L H (.ref a) (.scr ds)
  | dct {a : Addr} {t : Bool} {kv vv : List V} {ks vs : List D} : DctAt W H a t kv ks vv → RepVs W m L H kv ks → RepVs W m L H vv vs → Apart m L a → RepV W m L H (.ref a) (.dct t ks vs)
  | obj {i : Nat} : i < L.length → RepV W m L H (.ref (m.m i)) (.obj i)
  | exc {a : Addr} {c : Str} : ExcAt W H a c → Apart m L a → RepV W m L H (.ref a) (.exc c)
inductive RepVs (W : Wd) (m : Nb) (L : Hl) (H : Hp) : List V → List D → Prop
  | nil : RepVs W m L H [] []
  | cons {v : V} {vs : List V} {d : D} {ds : List D} : RepV W m L H v d → RepVs W m L H vs ds → RepVs W m L H (v :: vs) (d :: ds)
end

/-- what stands at m i -/
def RepO (W : Wd) (m : Nb) (L : Hl) (H : Hp) (a : Addr) : O → Prop
  | .dead => True
  | .lst ds => ∃ vs, H a = some (.lst vs) ∧ RepVs W m L H vs ds
  | .dct t ks vs => ∃ kv vv, DctAt W H a t kv ks vv ∧ RepVs W m L H kv ks ∧ RepVs W m L H vv vs
  | .ins c fs => ∃ (C dx : Addr) (gs : List (Str × V)), W.mg c = some (.ref C) ∧ H a = some (.ins C dx gs) ∧ H dx = some (.own a) ∧ Apart m L dx ∧ gs.map (·.1) = fs.map (·.1) ∧ RepVs W m L H (gs.map (·.2)) (fs.map (·.2))

structure RepL (W : Wd) (m : Nb) (L : Hl) (H : Hp) : Prop where
  ob : ∀ i o, L[i]? = some o → RepO W m L H (m.m i) o
  inj : ∀ i j, Alive L i → Alive L j → m.m i = m.m j → i = j
  res : ∀ a ∈ m.r, H a ≠ none
  nr : ∀ i, Alive L i → m.m i ∉ m.r

/-- from one state to a later one -/
structure Step (m : Nb) (L : Hl) (H : Hp) (m' : Nb) (L' : Hl) (H' : Hp) : Prop where
  len : L.length ≤ L'.length
  ids : ∀ i, i < L.length → m'.m i = m.m i
  rs : (∀ a, a ∈ m.r → a ∈ m'.r) ∧ ∀ a, a ∈ m'.r → a ∈ m.r ∨ H a = none
  live : ∀ i, i < L.length → Alive L' i → Alive L i
  keep : ∀ a o, H a = some o → ApN m L a → H' a = some o
  there : ∀ a, H' a = none → H a = none
  new : ∀ i, L.length ≤ i → Alive L' i → H (m'.m i) = none

section
variable {W : Wd} {m m' m1 m2 : Nb} {L L' L1 L2 : Hl} {H H' H1 H2 : Hp}
theorem Step.refl : Step m L H m L H :=
  ⟨Nat.le_refl _, fun _ _ => rfl, ⟨fun _ h => h, fun _ h => .inl h⟩, fun _ _ h => h, fun _ _ h _ => h, fun _ h => h, fun _ h1 h2 => absurd h2.lt (Nat.not_lt.mpr h1)⟩
theorem Step.apn (st : Step m L H m' L' H') {a : Addr} (h : H a ≠ none) (ap : ApN m L a) : ApN m' L' a := fun i al => by
  by_cases hi : i < L.length
  · rw [st.ids i hi]; exact ap i (st.live i hi al)
  · intro e
    exact h (e ▸ st.new i (Nat.not_lt.mp hi) al)
theorem Step.apart (st : Step m L H m' L' H') {a : Addr} (h : H a ≠ none) (ap : Apart m L a) : Apart m' L' a := ⟨st.apn h ap.1, fun z => (st.rs.2 a z).elim ap.2 h⟩
theorem some_ne {α : Type} {x : Option α} {o : α} (h : x = some o) : x ≠ none := by rw [h]; exact fun e => nomatch e
theorem Step.trans (a : Step m L H m1 L1 H1) (b : Step m1 L1 H1 m2 L2 H2) : Step m L H m2 L2 H2 where
  len := Nat.le_trans a.len b.len
  ids := fun i hi => (b.ids i (Nat.lt_of_lt_of_le hi a.len)).trans (a.ids i hi)
  rs := ⟨fun c h => b.rs.1 c (a.rs.1 c h), fun c h => (b.rs.2 c h).elim (a.rs.2 c) fun z => .inr (a.there c z)⟩
  live := fun i hi al => a.live i hi (b.live i (Nat.lt_of_lt_of_le hi a.len) al)
  keep := fun c o h ap => b.keep c o (a.keep c o h ap) (a.apn (some_ne h) ap)
  there := fun c h => a.there c (b.there c h)
  new := fun i hi al => by
    by_cases hj : i < L1.length
    · rw [b.ids i hj]; exact a.new i hi (b.live i hj al)
    · exact a.there _ (b.new i (Nat.not_lt.mp hj) al)
theorem Rd.ne {a : Addr} {u : HO} (h : Rd H a u) : H a ≠ none := by
  rcases h with h | ⟨o, h⟩ <;> exact some_ne h
theorem Step.rd (st : Step m L H m' L' H') {a : Addr} {u : HO} (h : Rd H a u) (ap : Apart m L a) : Rd H' a u := by
  rcases h with h | ⟨o, h⟩
  · exact .inl (st.keep a _ h ap.1)
  · exact .inr ⟨o, st.keep a _ h ap.1⟩
theorem DctAt.ne {a : Addr} {t : Bool} {kv vv : List V} {kd : List D} (h : DctAt W H a t kv kd vv) : H a ≠ none := by
  cases t with
  | false => obtain ⟨_, h, _⟩ := h; exact some_ne h
  | true => obtain ⟨_, _, _, _, h, _⟩ := h; exact some_ne h
theorem DctAt.at {a : Addr} {t : Bool} {kv vv : List V} {kd : List D} (h : DctAt W H a t kv kd vv) (k : ∀ o, H a = some o → H' a = some o) : DctAt W H' a t kv kd vv := by
  cases t with
  | false => obtain ⟨x, h, r⟩ := h; exact ⟨x, k _ h, r⟩
  | true => obtain ⟨x1, x2, x3, x4, h, r⟩ := h; exact ⟨x1, x2, x3, x4, k _ h, r⟩
theorem Step.dct (st : Step m L H m' L' H') {a : Addr} {t : Bool} {kv vv : List V} {kd : List D} (h : DctAt W H a t kv kd vv) (ap : Apart m L a) : DctAt W H' a t kv kd vv :=
  h.at fun o e => st.keep a o e ap.1
mutual
/-- what stood for a datum stands for it later -/
theorem RepV.step (st : Step m L H m' L' H') : ∀ {v : V} {d : D}, RepV W m L H v d → RepV W m' L' H' v d
  | _, _, .non => .non
  | _, _, .bl b => .bl b
  | _, _, .int i => .int i
  | _, _, .str x h => .str x h
  | _, _, .tup h r ap => .tup (st.rd h ap) (RepVs.step st r) (st.apart (Rd.ne h) ap)
  | _, _, .tupK h r => .tupK h (RepVs.step st r)
  | _, _, .lst h r ap => .lst (st.keep _ _ h ap.1) (RepVs.step st r) (st.apart (some_ne h) ap)
  | _, _, .scr h r ap => .scr (st.keep _ _ h ap.1) (RepVs.step st r) (st.apart (some_ne h) ap)
  | _, _, .scrK h r => .scrK h (RepVs.step st r)
  | _, _, .dct h r1 r2 ap => .dct (st.dct h ap) (RepVs.step st r1) (RepVs.step st r2) (st.apart h.ne ap)
  | _, _, .obj (i := i) h => by
    have e := st.ids i h
    rw [← e]
    exact .obj (Nat.lt_of_lt_of_le h st.len)
  | _, _, .exc h ap => by
    obtain ⟨C, h1, h2⟩ := h
    exact .exc ⟨C, h1, st.keep _ _ h2 ap.1⟩ (st.apart (some_ne h2) ap)
theorem RepVs.step (st : Step m L H m' L' H') : ∀ {vs : List V} {ds : List D}, RepVs W m L H vs ds → RepVs W m' L' H' vs ds
  | _, _, .nil => .nil
  | _, _, .cons h r => .cons (RepV.step st h) (RepVs.step st r)
end
theorem RepVs.length : ∀ {vs : List V} {ds : List D}, RepVs W m L H vs ds → vs.length = ds.length
  | _, _, .nil => rfl
  | _, _, .cons _ r => congrArg (· + 1) (RepVs.length r)
theorem RepVs.get : ∀ {vs : List V} {ds : List D} {i : Nat} {v : V}, RepVs W m L H vs ds → vs[i]? = some v → ∃ d, ds[i]? = some d ∧ RepV W m L H v d
  | _, _, _, _, .nil, e => by simp at e
  | _, _, 0, _, .cons r _, e => by simp at e; subst e; exact ⟨_, rfl, r⟩
  | _, _, i + 1, v, .cons _ t, e => by
    obtain ⟨u, h1, h2⟩ := RepVs.get (i := i) (v := v) t (by simpa using e)
    exact ⟨u, by simpa using h1, h2⟩
theorem RepVs.getD : ∀ {vs : List V} {ds : List D} {i : Nat} {d : D}, RepVs W m L H vs ds → ds[i]? = some d → ∃ v, vs[i]? = some v ∧ RepV W m L H v d
  | _, _, _, _, .nil, e => by simp at e
  | _, _, 0, _, .cons r _, e => by simp at e; subst e; exact ⟨_, rfl, r⟩
  | _, _, i + 1, v, .cons _ t, e => by
    obtain ⟨u, h1, h2⟩ := RepVs.getD (i := i) (d := v) t (by simpa using e)
    exact ⟨u, by simpa using h1, h2⟩
theorem RepVs.append : ∀ {vs ws : List V} {ds es : List D}, RepVs W m L H vs ds → RepVs W m L H ws es → RepVs W m L H (vs ++ ws) (ds ++ es)
  | _, _, _, _, .nil, s => s
  | _, _, _, _, .cons r t, s => .cons r (RepVs.append t s)
theorem RepVs.take : ∀ {vs : List V} {ds : List D} (n : Nat), RepVs W m L H vs ds → RepVs W m L H (vs.take n) (ds.take n)
  | _, _, 0, _ => .nil
  | _, _, _ + 1, .nil => .nil
  | _, _, n + 1, .cons r t => .cons r (RepVs.take n t)
theorem RepVs.drop : ∀ {vs : List V} {ds : List D} (n : Nat), RepVs W m L H vs ds → RepVs W m L H (vs.drop n) (ds.drop n)
  | _, _, 0, r => r
  | _, _, _ + 1, .nil => .nil
  | _, _, n + 1, .cons _ t => RepVs.drop n t
theorem RepVs.set {v : V} {d : D} (r : RepV W m L H v d) : ∀ {vs : List V} {ds : List D} (i : Nat), RepVs W m L H vs ds → RepVs W m L H (vs.set i v) (ds.set i d)
  | _, _, _, .nil => .nil
  | _, _, 0, .cons _ t => .cons r t
  | _, _, i + 1, .cons q t => .cons q (RepVs.set r i t)
theorem RepVs.eraseIdx : ∀ {vs : List V} {ds : List D} (i : Nat), RepVs W m L H vs ds → RepVs W m L H (vs.eraseIdx i) (ds.eraseIdx i)
  | _, _, _, .nil => .nil
  | _, _, 0, .cons _ t => t
  | _, _, i + 1, .cons q t => .cons q (RepVs.eraseIdx i t)
theorem RepVs.one {v : V} {d : D} (r : RepV W m L H v d) : RepVs W m L H [v] [d] := .cons r .nil
theorem RepVs.dropLast {vs : List V} {ds : List D} (r : RepVs W m L H vs ds) : RepVs W m L H vs.dropLast ds.dropLast := by
  rw [List.dropLast_eq_take, List.dropLast_eq_take, r.length]
  exact r.take _
theorem RepVs.rep {vs : List V} {ds : List D} (r : RepVs W m L H vs ds) : ∀ n : Nat, RepVs W m L H (List.replicate n vs).flatten (List.replicate n ds).flatten
  | 0 => .nil
  | n + 1 => by
    rw [List.replicate_succ, List.replicate_succ, List.flatten_cons, List.flatten_cons]
    exact r.append (RepVs.rep r n)
theorem RepO.ne {a : Addr} {o : O} (h : RepO W m L H a o) (hl : o.live) : H a ≠ none := by
  cases o with
  | dead => exact hl.elim
  | lst ds => obtain ⟨_, h, _⟩ := h; exact some_ne h
  | dct t ks vs => obtain ⟨_, _, h, _⟩ := h; exact h.ne
  | ins c fs => obtain ⟨_, _, _, _, h, _⟩ := h; exact some_ne h
theorem RepL.there (r : RepL W m L H) {i : Nat} (h : Alive L i) : H (m.m i) ≠ none := by
  obtain ⟨o, e, hl⟩ := h
  exact (r.ob i o e).ne hl
/-- a free address is no object's -/
theorem RepL.free (r : RepL W m L H) {a : Addr} (h : H a = none) : Apart m L a := ⟨fun i al e => r.there al (e ▸ h), fun z => r.res a z h⟩
end
end Nr

namespace Nr
open PySem PySem.Spec PyProof.Rows L2
section
variable {W : Wd} {m m' m1 m2 : Nb} {L L' L1 L2 : Hl} {H H' H1 H2 : Hp}

/-! ### what the states do -/
/-- the numbered objects stand as they stood -/
theorem RepL.keep (r : RepL W m L H) (st : Step m L H m L H') (k : ∀ i, Alive L i → ∀ o, H (m.m i) = some o → H' (m.m i) = some o) : RepL W m L H' := by
  refine ⟨fun i o e => ?_, r.inj, fun a z n => r.res a z (st.there a n), r.nr⟩
  have q := r.ob i o e
  cases o with
  | dead => trivial
  | lst ds =>
    obtain ⟨vs, h, rv⟩ := q
    exact ⟨vs, k i ⟨_, e, trivial⟩ _ h, rv.step st⟩
  | dct t ks vs =>
    obtain ⟨kv, vv, h, r1, r2⟩ := q
    exact ⟨kv, vv, h.at (k i ⟨_, e, trivial⟩), r1.step st, r2.step st⟩
  | ins c fs =>
    obtain ⟨C, dx, gs, h1, h2, h3, h4, h5, h6⟩ := q
    exact ⟨C, dx, gs, h1, k i ⟨_, e, trivial⟩ _ h2, st.keep _ _ h3 h4.1, h4, h5, h6.step st⟩
/-- a new object that no number has -/
theorem Step.laid {p : Addr} {o : HO} (hp : H p = none) : Step m L H m L (upd H p o) where
  len := Nat.le_refl _
  ids := fun _ _ => rfl
  rs := ⟨fun _ h => h, fun _ h => .inl h⟩
  live := fun _ _ h => h
  keep := fun a u h _ => by rw [upd_ne (ne_of_none h hp)]; exact h
  there := fun a h => by
    by_cases e : a = p
    · rw [e, upd_same] at h; cases h
    · rw [upd_ne e] at h; exact h
  new := fun _ h1 h2 => absurd h2.lt (Nat.not_lt.mpr h1)
theorem RepL.laid {p : Addr} {o : HO} (r : RepL W m L H) (hp : H p = none) : RepL W m L (upd H p o) :=
  r.keep (Step.laid hp) fun i _ u h => by rw [upd_ne (ne_of_none h hp)]; exact h
theorem Apart.laid {p : Addr} (r : RepL W m L H) (hp : H p = none) : Apart m L p := r.free hp

/-- only new objects came -/
structure Nx (W : Wd) (m : Nb) (L : Hl) (H H' : Hp) : Prop where
  st : Step m L H m L H'
  rl : RepL W m L H'
theorem Nx.refl (r : RepL W m L H) : Nx W m L H H := ⟨Step.refl, r⟩
theorem Nx.laid {p : Addr} {o : HO} (r : RepL W m L H) (hp : H p = none) : Nx W m L H (upd H p o) := ⟨Step.laid hp, r.laid hp⟩

/-! ### numbers -/
def nwId (m : Nb) (n : Nat) (p : Addr) : Nb := { m with m := fun i => if i = n then p else m.m i }
theorem nwId_same {n : Nat} {p : Addr} : (nwId m n p).m n = p := if_pos rfl
theorem nwId_ne {n i : Nat} {p : Addr} (h : i ≠ n) : (nwId m n p).m i = m.m i := if_neg h
theorem alive_push {o : O} {i : Nat} (h : Alive (L ++ [o]) i) : (i < L.length ∧ Alive L i) ∨ i = L.length := by
  obtain ⟨u, e, hl⟩ := h
  by_cases hi : i < L.length
  · rw [List.getElem?_append_left hi] at e
    exact .inl ⟨hi, u, e, hl⟩
  · have := (List.getElem?_eq_some_iff.mp e).1
    simp at this
    exact .inr (by omega)
theorem Step.push {o : O} {p : Addr} {u : HO} (hp : H p = none) : Step m L H (nwId m L.length p) (L ++ [o]) (upd H p u) where
  len := by simp
  ids := fun i hi => nwId_ne (Nat.ne_of_lt hi)
  rs := ⟨fun _ h => h, fun _ h => .inl h⟩
  live := fun i hi al => by
    rcases alive_push al with h | h
    · exact h.2
    · omega
  keep := fun a u h _ => by rw [upd_ne (ne_of_none h hp)]; exact h
  there := (Step.laid (m := m) (L := L) hp).there
  new := fun i hi al => by
    rcases alive_push al with h | h
    · omega
    · rw [h, nwId_same]; exact hp
/-- a new object, numbered -/
theorem RepL.push {o : O} {p : Addr} {u : HO} (r : RepL W m L H) (hp : H p = none) (ho : RepO W (nwId m L.length p) (L ++ [o]) (upd H p u) p o) : RepL W (nwId m L.length p) (L ++ [o]) (upd H p u) := by
  have st : Step m L H (nwId m L.length p) (L ++ [o]) (upd H p u) := Step.push hp
  have ne : ∀ {a : Addr} {x : HO}, H a = some x → upd H p u a = some x := fun {a x} h => by rw [upd_ne (ne_of_none h hp)]; exact h
  refine ⟨fun i x e => ?_, fun i j ai aj e => ?_, fun a z n => r.res a z (st.there a n), fun i ai z => ?_⟩
  · by_cases hi : i < L.length
    · rw [List.getElem?_append_left hi] at e
      rw [nwId_ne (Nat.ne_of_lt hi)]
      have q := r.ob i x e
      cases x with
      | dead => trivial
      | lst ds =>
        obtain ⟨vs, h, rv⟩ := q
        exact ⟨vs, ne h, rv.step st⟩
      | dct t ks vs =>
        obtain ⟨kv, vv, h, r1, r2⟩ := q
        exact ⟨kv, vv, h.at fun o h => ne h, r1.step st, r2.step st⟩
      | ins c fs =>
        obtain ⟨C, dx, gs, h1, h2, h3, h4, h5, h6⟩ := q
        exact ⟨C, dx, gs, h1, ne h2, ne h3, st.apart (some_ne h3) h4, h5, h6.step st⟩
    · have hl := (List.getElem?_eq_some_iff.mp e).1
      simp at hl
      have : i = L.length := by omega
      subst this
      rw [List.getElem?_append_right (Nat.le_refl _)] at e
      simp at e
      subst e
      rw [nwId_same]
      exact ho
  · rcases alive_push ai with ⟨hi, ai⟩ | hi <;> rcases alive_push aj with ⟨hj, aj⟩ | hj
    · rw [nwId_ne (Nat.ne_of_lt hi), nwId_ne (Nat.ne_of_lt hj)] at e
      exact r.inj i j ai aj e
    · rw [nwId_ne (Nat.ne_of_lt hi), hj, nwId_same] at e
      exact absurd (e ▸ hp) (r.there ai)
    · rw [nwId_ne (Nat.ne_of_lt hj), hi, nwId_same] at e
      exact absurd (e ▸ hp) (r.there aj)
    · rw [hi, hj]
  · rcases alive_push ai with ⟨hi, ai⟩ | hi
    · rw [nwId_ne (Nat.ne_of_lt hi)] at z
      exact r.nr i ai z
    · rw [hi, nwId_same] at z
      exact r.res p z hp
theorem alive_set {o : O} {i j : Nat} (h : Alive (L.set i o) j) (hi : Alive L i) : Alive L j := by
  by_cases e : j = i
  · rw [e]; exact hi
  · obtain ⟨u, q, hl⟩ := h
    rw [List.getElem?_set_ne (Ne.symm e)] at q
    exact ⟨u, q, hl⟩
theorem Step.write {o : O} {i : Nat} {u : HO} (hi : Alive L i) : Step m L H m (L.set i o) (upd H (m.m i) u) where
  len := by simp
  ids := fun _ _ => rfl
  rs := ⟨fun _ h => h, fun _ h => .inl h⟩
  live := fun j _ al => alive_set al hi
  keep := fun a x h ap => by rw [upd_ne (fun e => ap i hi e.symm)]; exact h
  there := fun a h => by
    by_cases e : a = m.m i
    · rw [e, upd_same] at h; cases h
    · rw [upd_ne e] at h; exact h
  new := fun j h1 h2 => by
    have := h2.lt
    simp at this
    omega
/-- a numbered object changed -/
theorem RepL.write {o : O} {i : Nat} {u : HO} (r : RepL W m L H) (hi : Alive L i) (ho : RepO W m (L.set i o) (upd H (m.m i) u) (m.m i) o) : RepL W m (L.set i o) (upd H (m.m i) u) := by
  have st : Step m L H m (L.set i o) (upd H (m.m i) u) := Step.write hi
  refine ⟨fun j x e => ?_, fun j k aj ak e => r.inj j k (alive_set aj hi) (alive_set ak hi) e, fun a z n => r.res a z (st.there a n), fun j aj => r.nr j (alive_set aj hi)⟩
  by_cases hj : j = i
  · subst hj
    rw [List.getElem?_set_self hi.lt] at e
    cases e
    exact ho
  · rw [List.getElem?_set_ne (Ne.symm hj)] at e
    have q := r.ob j x e
    cases x with
    | dead => trivial
    | lst ds =>
      obtain ⟨vs, h, rv⟩ := q
      have ne : m.m j ≠ m.m i := fun z => hj (r.inj j i ⟨_, e, trivial⟩ hi z)
      exact ⟨vs, by rw [upd_ne ne]; exact h, rv.step st⟩
    | dct t ks vs =>
      obtain ⟨kv, vv, h, r1, r2⟩ := q
      have ne : m.m j ≠ m.m i := fun z => hj (r.inj j i ⟨_, e, trivial⟩ hi z)
      exact ⟨kv, vv, h.at fun o z => by rw [upd_ne ne]; exact z, r1.step st, r2.step st⟩
    | ins c fs =>
      obtain ⟨C, dx, gs, h1, h2, h3, h4, h5, h6⟩ := q
      have ne : m.m j ≠ m.m i := fun z => hj (r.inj j i ⟨_, e, trivial⟩ hi z)
      exact ⟨C, dx, gs, h1, by rw [upd_ne ne]; exact h2, st.keep _ _ h3 h4.1, st.apart (some_ne h3) h4, h5, h6.step st⟩
/-- a number given up -/
theorem Step.kill {i : Nat} (hi : Alive L i) : Step m L H m (L.set i .dead) H where
  len := by simp
  ids := fun _ _ => rfl
  rs := ⟨fun _ h => h, fun _ h => .inl h⟩
  live := fun j _ al => alive_set al hi
  keep := fun a x h _ => h
  there := fun a h => h
  new := fun j h1 h2 => by
    have := h2.lt
    simp at this
    omega
theorem RepL.kill {i : Nat} (r : RepL W m L H) (hi : Alive L i) : RepL W m (L.set i .dead) H := by
  have st : Step m L H m (L.set i .dead) H := Step.kill hi
  refine ⟨fun j x e => ?_, fun j k aj ak e => r.inj j k (alive_set aj hi) (alive_set ak hi) e, fun a z n => r.res a z (st.there a n), fun j aj => r.nr j (alive_set aj hi)⟩
  by_cases hj : j = i
  · subst hj
    rw [List.getElem?_set_self hi.lt] at e
    cases e
    trivial
  · rw [List.getElem?_set_ne (Ne.symm hj)] at e
    have q := r.ob j x e
    cases x with
    | dead => trivial
    | lst ds => obtain ⟨vs, h, rv⟩ := q; exact ⟨vs, h, rv.step st⟩
    | dct t ks vs => obtain ⟨kv, vv, h, r1, r2⟩ := q; exact ⟨kv, vv, h, r1.step st, r2.step st⟩
    | ins c fs => obtain ⟨C, dx, gs, h1, h2, h3, h4, h5, h6⟩ := q; exact ⟨C, dx, gs, h1, h2, h3, st.apart (some_ne h3) h4, h5, h6.step st⟩
theorem Apart.kill {i : Nat} (r : RepL W m L H) (hi : Alive L i) : Apart m (L.set i .dead) (m.m i) := ⟨fun j al e => by
  have hj : j = i := r.inj j i (alive_set al hi) hi e
  obtain ⟨u, q, hl⟩ := al
  rw [hj, List.getElem?_set_self hi.lt] at q
  cases q
  exact hl, r.nr i hi⟩

/-! ### a situation: where a body stands -/
/-- the entry -/
structure En where
  m : Nb
  L : Hl
  H : Hp
structure Sit (W : Wd) (B : Option En) (m : Nb) (L : Hl) (ds : Ds) (σ : _root_.L2.St) (H : Hp) : Prop where
  rl : RepL W m L H
  ln : ds.length = σ.length
  rs : ∀ (i : Nat) (d : D), ds[i]? = some (some d) → ∃ v, σ[i]? = some (some v) ∧ RepV W m L H v d
  st : ∀ b, B = some b → Step b.m b.L b.H m L H
variable {B : Option En} {ds : Ds} {σ : _root_.L2.St}
theorem Sit.nx (S : Sit W B m L ds σ H) (st : Step m L H m' L' H') (rl : RepL W m' L' H') : Sit W B m' L' ds σ H' :=
  ⟨rl, S.ln, fun i d e => let ⟨v, h, r⟩ := S.rs i d e; ⟨v, h, r.step st⟩, fun b e => (S.st b e).trans st⟩
theorem Sit.set (S : Sit W B m L ds σ H) {i : Nat} {v : V} {d : D} (r : RepV W m L H v d) : Sit W B m L (ds.set i (some d)) (σ.set i (some v)) H :=
  ⟨S.rl, by simpa using S.ln, fun j e he => by
    by_cases hj : j = i
    · subst hj
      have hl : j < ds.length := by have := (List.getElem?_eq_some_iff.mp he).1; simpa using this
      rw [List.getElem?_set_self hl] at he
      cases he
      exact ⟨v, by rw [List.getElem?_set_self (by rw [← S.ln]; exact hl)], r⟩
    · rw [List.getElem?_set_ne (Ne.symm hj)] at he
      rw [List.getElem?_set_ne (Ne.symm hj)]
      exact S.rs j e he, S.st⟩
end

/-! ### readings over data -/
abbrev QE := D → Hl → Prop
/-- an expression's -/
abbrev TD := Ds → Hl → QE → Prop
abbrev TDs := Ds → Hl → (List D → Hl → Prop) → Prop
def lE (W : Wd) (B : Option En) (t : TD) : TE := fun σ H Q => ∃ (m : Nb) (L : Hl) (ds : Ds) (Qd : QE), Sit W B m L ds σ H ∧ t ds L Qd ∧
  ∀ d L' v m' H', Qd d L' → Step m L H m' L' H' → RepL W m' L' H' → RepV W m' L' H' v d → Q v H'
def lA (W : Wd) (B : Option En) (t : TDs) : TA := fun σ H Q => ∃ (m : Nb) (L : Hl) (ds : Ds) (Qd : List D → Hl → Prop), Sit W B m L ds σ H ∧ t ds L Qd ∧
  ∀ d L' v m' H', Qd d L' → Step m L H m' L' H' → RepL W m' L' H' → RepVs W m' L' H' v d → Q v H'

abbrev DE (X : Cx) (W : Wd) (B : Option En) (e : Expr) (t : TD) : Prop := PE X e (lE W B t)
abbrev DA (X : Cx) (W : Wd) (B : Option En) (es : List Expr) (t : TDs) : Prop := PA X es (lA W B t)

section
variable {X : Cx} {W : Wd} {B : Option En}
/-- from a rule of the hand layer -/
theorem peI {e : Expr} {t t' : TE} (h : PE X e t) (k : ∀ σ H Q, t' σ H Q → t σ H Q) : PE X e t' := ⟨fun pins s σ H Q I q => h.run pins s σ H Q I (k σ H Q q)⟩
theorem ptI {e : Expr} {t t' : TT} (h : PT X e t) (k : ∀ σ H Q, t' σ H Q → t σ H Q) : PT X e t' := ⟨fun pins s σ H Q I q => h.run pins s σ H Q I (k σ H Q q)⟩
theorem paI {es : List Expr} {t t' : TA} (h : PA X es t) (k : ∀ σ H Q, t' σ H Q → t σ H Q) : PA X es t' := ⟨fun pos pins s σ H Q I q => h.run pos pins s σ H Q I (k σ H Q q)⟩

def dVar (i : Nat) : TD := fun ds L Q => ∃ d, ds[i]? = some (some d) ∧ Q d L
def dC (d : D) : TD := fun _ L Q => Q d L
theorem de_var {e : Expr} {i : Nat} (h : PE X e (tVar i)) : DE X W B e (dVar i) := peI h fun σ H Q ⟨m, L, ds, Qd, S, ⟨d, hd, q⟩, k⟩ => by
  obtain ⟨v, hv, r⟩ := S.rs i d hd
  exact ⟨v, hv, k d L v m H q Step.refl S.rl r⟩
theorem de_int {e : Expr} {i : Int} (h : PE X e (tC (.int i))) : DE X W B e (dC (.int i)) := peI h fun σ H Q ⟨m, L, ds, Qd, S, q, k⟩ => k _ L _ m H q Step.refl S.rl (.int i)
theorem de_bl {e : Expr} {b : Bool} (h : PE X e (tC (.bl b))) : DE X W B e (dC (.bl b)) := peI h fun σ H Q ⟨m, L, ds, Qd, S, q, k⟩ => k _ L _ m H q Step.refl S.rl (.bl b)
theorem de_non {e : Expr} (h : PE X e (tC .non)) : DE X W B e (dC .non) := peI h fun σ H Q ⟨m, L, ds, Qd, S, q, k⟩ => k _ L _ m H q Step.refl S.rl .non
theorem de_str {e : Expr} {x : Str} (hx : PyData.strOk x = true) (h : PE X e (tC (.str x))) : DE X W B e (dC (.str x)) := peI h fun σ H Q ⟨m, L, ds, Qd, S, q, k⟩ => k _ L _ m H q Step.refl S.rl (.str x hx)

/-! ### two values in a row, by a rule on values -/
abbrev OD := Hl → D → D → (D → Prop) → Prop
/-- the rule r of the hand layer serves the operation o on data -/
def Op2 (W : Wd) (r : R2) (o : OD) : Prop := ∀ (m : Nb) (L : Hl) (H : Hp) (x y : D) (v u : V) (Q : VK) (Qd : D → Prop), RepL W m L H → RepV W m L H v x → RepV W m L H u y → o L x y Qd →
  (∀ z v' H', Qd z → Nx W m L H H' → RepV W m L H' v' z → Q v' H') → r v u H Q
def d2 (o : OD) (ta tb : TD) : TD := fun ds L Q => ta ds L fun x L1 => tb ds L1 fun y L2 => o L2 x y fun z => Q z L2
theorem tOp_of {r : R2} {o : OD} (ho : Op2 W r o) {ta tb : TD} {σ : _root_.L2.St} {H : Hp} {Q : VK} (h : lE W B (d2 o ta tb) σ H Q) : tOp r (lE W B ta) (lE W B tb) σ H Q := by
  obtain ⟨m, L, ds, Qd, S, q, k⟩ := h
  refine ⟨m, L, ds, _, S, q, fun x L1 v m1 H1 q1 st1 rl1 rv => ⟨m1, L1, ds, _, S.nx st1 rl1, q1, fun y L2 u m2 H2 q2 st2 rl2 ru => ?_⟩⟩
  exact ho m2 L2 H2 x y v u Q _ rl2 (rv.step st2) ru q2 fun z v' H' qz n rz => k z L2 v' m2 H' qz ((st1.trans st2).trans n.st) n.rl rz
theorem de_bin {a b : Expr} {op : Operator} {pos : Pos} {r : R2} {o : OD} {ta tb : TD} (hr : OpR X (binaryOp op) r) (ho : Op2 W r o) (ha : DE X W B a ta) (hb : DE X W B b tb) : DE X W B (.BinOp a op b pos) (d2 o ta tb) :=
  peI (pe_op hr ha hb) fun σ H Q h => tOp_of ho h
theorem de_cmp {a b : Expr} {op : CmpOp} {pos : Pos} {r : R2} {o : OD} {ta tb : TD} (hr : OpR X (compareOp op) r) (ho : Op2 W r o) (ha : DE X W B a ta) (hb : DE X W B b tb) (hm : behindInMarks op b = false) : DE X W B (.Compare a [op] [b] pos) (d2 o ta tb) :=
  peI (pe_cmpR hr ha hb hm) fun σ H Q h => tOp_of ho h
end
end Nr
namespace Nr
open PySem PySem.Spec PyProof.Rows L2
/-! ### a place that is reserved: a list that is being made -/
def Nb.res (m : Nb) (p : Addr) : Nb := { m with r := p :: m.r }
section
variable {W : Wd} {m : Nb} {L : Hl} {H : Hp} {p : Addr}
/-- values stand in another numbering, if what they are apart from is -/
theorem RepV.renum {m' : Nb} {L' : Hl} {H' : Hp} (hk : ∀ a o, H a = some o → Apart m L a → H' a = some o ∧ Apart m' L' a) (hl : L.length ≤ L'.length) (hi : ∀ i, i < L.length → m'.m i = m.m i) {v : V} {d : D} (h : RepV W m L H v d) : RepV W m' L' H' v d := by
  refine RepV.rec (motive_1 := fun v d _ => RepV W m' L' H' v d) (motive_2 := fun vs ds _ => RepVs W m' L' H' vs ds) .non .bl .int .str ?_ ?_ ?_ ?_ ?_ ?_ ?_ ?_ .nil ?_ h
  · intro a vs ds hr _ ap ih
    rcases hr with hr | ⟨o, hr⟩
    · exact .tup (.inl (hk a _ hr ap).1) ih (hk a _ hr ap).2
    · exact .tup (.inr ⟨o, (hk a _ hr ap).1⟩) ih (hk a _ hr ap).2
  · intro a vs ds hr _ ih
    exact .tupK hr ih
  · intro a vs ds hr _ ap ih
    exact .lst (hk a _ hr ap).1 ih (hk a _ hr ap).2
  · intro a o vs ds hr _ ap ih
    exact .scr (hk a _ hr ap).1 ih (hk a _ hr ap).2
  · intro a vs ds hr _ ih
    exact .scrK hr ih
  · intro a t kv vv ks vs hr _ _ ap i1 i2
    have ne : ∃ o, H a = some o := Option.ne_none_iff_exists'.mp hr.ne
    obtain ⟨o, e⟩ := ne
    exact .dct (hr.at fun o h => (hk a o h ap).1) i1 i2 (hk a _ e ap).2
  · intro i h
    have e := hi i h
    rw [← e]
    exact .obj (Nat.lt_of_lt_of_le h hl)
  · intro a c ⟨C, h1, h2⟩ ap
    exact .exc ⟨C, h1, (hk a _ h2 ap).1⟩ (hk a _ h2 ap).2
  · intro v vs d ds _ _ i1 i2
    exact .cons i1 i2
theorem RepVs.renum {m' : Nb} {L' : Hl} {H' : Hp} (hk : ∀ a o, H a = some o → Apart m L a → H' a = some o ∧ Apart m' L' a) (hl : L.length ≤ L'.length) (hi : ∀ i, i < L.length → m'.m i = m.m i) : ∀ {vs : List V} {ds : List D}, RepVs W m L H vs ds → RepVs W m' L' H' vs ds
  | _, _, .nil => .nil
  | _, _, .cons h r => .cons (h.renum hk hl hi) (RepVs.renum hk hl hi r)
theorem RepO.renum {m' : Nb} {L' : Hl} {H' : Hp} (hk : ∀ a o, H a = some o → Apart m L a → H' a = some o ∧ Apart m' L' a) (hl : L.length ≤ L'.length) (hi : ∀ i, i < L.length → m'.m i = m.m i) {a : Addr} {o : O} (ha : ∀ u, H a = some u → H' a = some u) (h : RepO W m L H a o) : RepO W m' L' H' a o := by
  cases o with
  | dead => trivial
  | lst ds => obtain ⟨vs, h1, h2⟩ := h; exact ⟨vs, ha _ h1, h2.renum hk hl hi⟩
  | dct t ks vs => obtain ⟨kv, vv, h1, h2, h3⟩ := h; exact ⟨kv, vv, h1.at ha, h2.renum hk hl hi, h3.renum hk hl hi⟩
  | ins c fs => obtain ⟨C, dx, gs, h1, h2, h3, h4, h5, h6⟩ := h; exact ⟨C, dx, gs, h1, ha _ h2, (hk _ _ h3 h4).1, (hk _ _ h3 h4).2, h5, h6.renum hk hl hi⟩
/-- a new place is reserved -/
theorem resv_hk {o : HO} (hp : H p = none) : ∀ a u, H a = some u → Apart m L a → (upd H p o) a = some u ∧ Apart (m.res p) L a := fun a u e ap => by
  have ne : a ≠ p := ne_of_none e hp
  refine ⟨by rw [upd_ne ne]; exact e, ap.1, fun z => ?_⟩
  rcases List.mem_cons.mp z with z | z
  · exact ne z
  · exact ap.2 z
theorem RepVs.resv {o : HO} {vs : List V} {ds : List D} (hp : H p = none) (h : RepVs W m L H vs ds) : RepVs W (m.res p) L (upd H p o) vs ds := h.renum (resv_hk hp) (Nat.le_refl _) fun _ _ => rfl
theorem RepV.resv {o : HO} {v : V} {d : D} (hp : H p = none) (h : RepV W m L H v d) : RepV W (m.res p) L (upd H p o) v d := h.renum (resv_hk hp) (Nat.le_refl _) fun _ _ => rfl
theorem Step.resv {o : HO} (hp : H p = none) : Step m L H (m.res p) L (upd H p o) where
  len := Nat.le_refl _
  ids := fun _ _ => rfl
  rs := ⟨fun _ h => List.mem_cons_of_mem _ h, fun a h => (List.mem_cons.mp h).elim (fun e => .inr (e ▸ hp)) .inl⟩
  live := fun _ _ h => h
  keep := fun a u h _ => by rw [upd_ne (ne_of_none h hp)]; exact h
  there := (Step.laid (m := m) (L := L) hp).there
  new := fun _ h1 h2 => absurd h2.lt (Nat.not_lt.mpr h1)
theorem RepL.resv {o : HO} (r : RepL W m L H) (hp : H p = none) : RepL W (m.res p) L (upd H p o) := by
  refine ⟨fun i x e => (r.ob i x e).renum (resv_hk hp) (Nat.le_refl _) (fun _ _ => rfl) fun u h => by rw [upd_ne (ne_of_none h hp)]; exact h, r.inj, fun a z n => ?_, fun i ai z => ?_⟩
  · rcases List.mem_cons.mp z with z | z
    · rw [z, upd_same] at n; cases n
    · by_cases e : a = p
      · rw [e, upd_same] at n; cases n
      · rw [upd_ne e] at n; exact r.res a z n
  · rcases List.mem_cons.mp z with z | z
    · exact (r.free hp).1 i ai z
    · exact r.nr i ai z
/-- .. and no more -/
def Nb.unr (m : Nb) (p : Addr) : Nb := { m with r := m.r.filter fun a => decide (a ≠ p) }
theorem mem_unr {a : Addr} : a ∈ (m.unr p).r ↔ a ∈ m.r ∧ a ≠ p := by
  unfold Nb.unr
  simp
theorem unr_hk : ∀ a u, H a = some u → Apart m L a → H a = some u ∧ Apart (m.unr p) L a := fun a u e ap => ⟨e, ap.1, fun z => ap.2 (mem_unr.mp z).1⟩
theorem RepVs.unr {vs : List V} {ds : List D} (h : RepVs W m L H vs ds) : RepVs W (m.unr p) L H vs ds := h.renum unr_hk (Nat.le_refl _) fun _ _ => rfl
theorem RepL.unr (r : RepL W m L H) : RepL W (m.unr p) L H :=
  ⟨fun i x e => (r.ob i x e).renum unr_hk (Nat.le_refl _) (fun _ _ => rfl) fun u h => h, r.inj, fun a z => r.res a (mem_unr.mp z).1, fun i ai z => r.nr i ai (mem_unr.mp z).1⟩
theorem Step.unr {m' : Nb} {L' : Hl} {H' : Hp} (r : RepL W m L H) (st : Step m L H m' L' H') (hp : H p = none) : Step m L H (m'.unr p) L' H' :=
  ⟨st.len, st.ids, ⟨fun a z => mem_unr.mpr ⟨st.rs.1 a z, fun e => r.res a z (e ▸ hp)⟩, fun a z => st.rs.2 a (mem_unr.mp z).1⟩, st.live, st.keep, st.there, st.new⟩
/-- .. or is numbered -/
theorem num_hk {o : O} (ap0 : ApN m L p) (hr : p ∈ m.r) : ∀ a u, H a = some u → Apart m L a → H a = some u ∧ Apart (nwId (m.unr p) L.length p) (L ++ [o]) a := fun a u e ap => by
  refine ⟨e, fun i ai => ?_, fun z => ap.2 (mem_unr.mp z).1⟩
  rcases alive_push ai with ⟨hi, ai⟩ | hi
  · rw [nwId_ne (Nat.ne_of_lt hi)]; exact ap.1 i ai
  · rw [hi, nwId_same]; exact fun z => ap.2 (z ▸ hr)
theorem RepVs.num {o : O} {vs : List V} {ds : List D} (ap0 : ApN m L p) (hr : p ∈ m.r) (h : RepVs W m L H vs ds) : RepVs W (nwId (m.unr p) L.length p) (L ++ [o]) H vs ds :=
  h.renum (num_hk ap0 hr) (by simp) fun i hi => nwId_ne (Nat.ne_of_lt hi)
theorem RepL.num {o : O} (r : RepL W m L H) (ap0 : ApN m L p) (hr : p ∈ m.r) (ho : RepO W (nwId (m.unr p) L.length p) (L ++ [o]) H p o) : RepL W (nwId (m.unr p) L.length p) (L ++ [o]) H := by
  refine ⟨fun i x e => ?_, fun i j ai aj e => ?_, fun a z => r.res a (mem_unr.mp z).1, fun i ai z => ?_⟩
  · by_cases hi : i < L.length
    · rw [List.getElem?_append_left hi] at e
      rw [nwId_ne (Nat.ne_of_lt hi)]
      exact (r.ob i x e).renum (num_hk ap0 hr) (by simp) (fun i hi => nwId_ne (Nat.ne_of_lt hi)) fun u h => h
    · have hl := (List.getElem?_eq_some_iff.mp e).1
      simp at hl
      have : i = L.length := by omega
      subst this
      rw [List.getElem?_append_right (Nat.le_refl _)] at e
      simp at e
      subst e
      rw [nwId_same]
      exact ho
  · rcases alive_push ai with ⟨hi, ai⟩ | hi <;> rcases alive_push aj with ⟨hj, aj⟩ | hj
    · rw [nwId_ne (Nat.ne_of_lt hi), nwId_ne (Nat.ne_of_lt hj)] at e
      exact r.inj i j ai aj e
    · rw [nwId_ne (Nat.ne_of_lt hi), hj, nwId_same] at e
      exact absurd e (ap0 i ai)
    · rw [nwId_ne (Nat.ne_of_lt hj), hi, nwId_same] at e
      exact absurd e.symm (ap0 j aj)
    · rw [hi, hj]
  · rcases alive_push ai with ⟨hi, ai⟩ | hi
    · rw [nwId_ne (Nat.ne_of_lt hi)] at z
      exact r.nr i ai (mem_unr.mp z).1
    · rw [hi, nwId_same] at z
      exact (mem_unr.mp z).2 rfl
end
end Nr

/-! The small language: what is checked against the text, and what it does to data. -/
namespace Nr
open PySem PySem.Spec PyProof.Rows L2

inductive B2 where | add | sub | mul | mod | fdiv | pow
  deriving DecidableEq
inductive C2 where | eq | ne | lt | le | gt | ge | is | isnot | isin | notin
  deriving DecidableEq
inductive Bi where | len | abs | min | max | sum | tuple | int | all | any | min1 | max1
  deriving DecidableEq
inductive Ty where | int | bool | str | tuple | list | dict | seq | cls (c : Str) (xs : List Str)
  deriving DecidableEq
inductive Mt where | append | pop | extend | insert | index
  deriving DecidableEq
mutual
inductive IG where | n (i : Nat) | t (gs : IGs)
inductive IGs where | nil | cons (g : IG) (gs : IGs)
end
mutual
inductive IE where
  | var (i : Nat) | int (i : Int) | str (x : Str) | bl (b : Bool) | non | gint (x : Str) (i : Int) | omit
  | tup (es : IEs) | frz (f : IF) | newl (f : IF) | frzd (f : ID) | newd (f : ID)
  | bin (o : B2) (a b : IE) | cmp (o : C2) (a b : IE) | chain (o o' : C2) (a b c : IE)
  | neg (a : IE) | not (a : IE) | and (es : IEs) | or (es : IEs) | ite (c a b : IE)
  | idx (a b : IE) | slc (a lo hi : IE)
  | call (f : Str) (es : IEs) | callk (f : Str) (es ks : IEs) (perm : List Nat)
  | bi (b : Bi) (es : IEs) | tupr (r : IR) | isi (a : IE) (t : Ty)
  | meth (m : Mt) (a : IE) (es : IEs)
  | dget (a k d : IE)
  | give (i : Nat)
/-- a new list -/
inductive IF where
  | disp (es : IEs) | of (e : IE) | rng (r : IR) | sorted (e : IE) | cat (a b : IE) | rep (a b : IE)
  | lc (own : List Nat) (e : IE) (g : IG) (it : II) (ifs : IEs)
  | lc2 (own own1 : List Nat) (e : IE) (g : IG) (it : II) (ifs : IEs) (g1 : IG) (it1 : II) (ifs1 : IEs)
/-- a new dict -/
inductive ID where
  | nil (t : Bool) | dc (t : Bool) (own : List Nat) (k v : IE) (g : IG) (it : II) (ifs : IEs) | one (t : Bool) (k v : IE) | of (e : IE)
inductive IEs where
  | nil | cons (e : IE) (es : IEs)
inductive II where
  | seq (e : IE) | rng (r : IR) | enum (a : IE) | zip (a b : IE)
/-- range(b), range(a, b) -/
inductive IR where
  | one (b : IE) | two (a b : IE)
end
mutual
inductive IS where
  | pass | expr (e : IE) | asg (g : IG) (e : IE) | par (is : List Nat) (es : IEs)
  | seti (o i e : IE) | aug (i : Nat) (e : IE)
  | ret (e : IE) | ret0 | ite (c : IE) (a b : ISs) | for_ (g : IG) (it : II) (b : ISs) | while_ (c : IE) (b : ISs)
  | brk | cont | raise (c : Str) | try_ (b : ISs) (c : Str) (xs : List Str) (i j : Nat) | tryr (b : ISs) (c : Str) (xs : List Str)
inductive ISs where
  | nil | cons (s : IS) (r : ISs)
end

/-- the program's errors: all are subclasses of one, that is one of ValueError -/
def exSub (x c : Str) : Bool := decide (x = c) || (decide (c = "RoomError") || decide (c = "ValueError"))

/-! ### what values do -/
/-- lists by their numbers, at the top -/
def res (L : Hl) : D → D
  | .obj i => match L[i]? with
    | some (.lst xs) => .lst xs
    | some (.dct t ks vs) => .dct t ks vs
    | _ => .obj i
  | d => d
/-- data that compare -/
def toP : D → PyData
  | .non => .none
  | .bl b => .bool b
  | .int i => .int i
  | .str x => .str x
  | .tup xs => .tuple (toPs xs)
  | .lst xs => .list (toPs xs)
  | _ => .none
where toPs : List D → List PyData
  | [] => []
  | x :: xs => toP x :: toPs xs
/-- no object of a number, no dict: of this depth at most -/
def plain : Nat → D → Bool
  | _, .non => true
  | _, .bl _ => true
  | _, .int _ => true
  | _, .str _ => true
  | n + 1, .tup xs => xs.all (plain n)
  | n + 1, .lst xs => xs.all (plain n)
  | _, _ => false
def deq (x y : D) : Bool := PyData.eqv (toP x) (toP y)
def dlt (x y : D) : Bool := PySem.W.dataLt (toP x) (toP y)
def alikeD (x y : D) : Bool := PySem.W.alike (toP x) (toP y)
/-- the lesser of two at each place: what min does -/
def isFlat : D → Bool
  | .non | .bl _ | .int _ | .str _ => true
  | _ => false

def truthV (L : Hl) (d : D) : Option Bool :=
  match res L d with
  | .non => some false
  | .bl b => some b
  | .int i => some (i != 0)
  | .tup xs => some (!xs.isEmpty)
  | .lst xs => some (!xs.isEmpty)
  | .scr xs => some (!xs.isEmpty)
  | _ => none
def truthK (L : Hl) (d : D) (Q : Bool → Prop) : Prop := ∃ b, truthV L d = some b ∧ Q b
def mulOk (i j : Int) : Prop := CMul i j ∨ CMulW i j
def addK (L : Hl) (x y : D) (Q : D → Prop) : Prop :=
  match res L x, res L y with
  | .int i, .int j => Q (.int (i + j))
  | .tup a, .tup b => a.length + b.length ≤ sizeLine ∧ Q (.tup (a ++ b))
  | .lst a, .lst b => a.length + b.length ≤ sizeLine ∧ Q (.lst (a ++ b))
  | _, _ => False
def mulK (L : Hl) (x y : D) (Q : D → Prop) : Prop :=
  match res L x, res L y with
  | .int i, .int j => mulOk i j ∧ Q (.int (i * j))
  | .lst a, .int k => (-(2 ^ 63) ≤ k ∧ k < 2 ^ 63 ∧ a.length * k.toNat ≤ sizeLine) ∧ Q (.lst (List.replicate k.toNat a).flatten)
  | .tup a, .int k => (a ≠ [] ∧ 2 ≤ k ∧ k ≤ 1000 ∧ a.length ≤ 1000) ∧ Q (.tup (List.replicate k.toNat a).flatten)
  | _, _ => False
def intK (C : Int → Int → Prop) (g : Int → Int → D) (L : Hl) (x y : D) (Q : D → Prop) : Prop :=
  match res L x, res L y with
  | .int i, .int j => C i j ∧ Q (g i j)
  | _, _ => False
def powC (i j : Int) : Prop := 0 ≤ j ∧ j ≤ 1000000 ∧ i.natAbs < 2 ^ 64
def binK : B2 → Hl → D → D → (D → Prop) → Prop
  | .add => addK
  | .sub => intK (fun _ _ => True) fun i j => .int (i - j)
  | .mul => mulK
  | .mod => intK (fun _ j => 0 < j) fun i j => .int (i % j)
  | .fdiv => intK CDivW fun i j => .int (i / j)
  | .pow => intK powC fun i j => .int (i ^ j.toNat)
def isNon : D → Bool
  | .non => true
  | _ => false
def isC (L : Hl) (x y : D) (Q : Bool → Prop) : Prop :=
  match y with
  | .non => Q (isNon x)
  | .bl b => (match x with
    | .bl a => Q (a == b)
    | _ => False)
  | _ => False
/-- whether an item is x -/
def hasD (x : D) (xs : List D) : Bool := xs.any fun z => deq z x
def keq (a b : D) : Bool := decide (nkey a = nkey b)
def dhas (ks : List D) (k : D) : Bool := ks.any fun a => keq a k
def dget : List D → List D → D → Option D
  | a :: ks, v :: vs, k => if keq a k = true then some v else dget ks vs k
  | _, _, _ => none
def dputK : List D → D → List D
  | [], k => [k]
  | a :: ks, k => if keq a k = true then a :: ks else a :: dputK ks k
def dputV : List D → List D → D → D → List D
  | a :: ks, v :: vs, k, z => if keq a k = true then z :: vs else v :: dputV ks vs k z
  | _, _, _, z => [z]
def cmpK (o : C2) (L : Hl) (x y : D) (Q : D → Prop) : Prop :=
  match o with
  | .eq => (plain 60 (res L x) = true ∧ plain 60 (res L y) = true) ∧ Q (.bl (deq (res L x) (res L y)))
  | .ne => (plain 60 (res L x) = true ∧ plain 60 (res L y) = true) ∧ Q (.bl (!deq (res L x) (res L y)))
  | .lt => (match res L x, res L y with
    | .int i, .int j => Q (.bl (decide (i < j)))
    | .tup a, .tup b => (plain 60 (.tup a) = true ∧ plain 60 (.tup b) = true ∧ alikeD (.tup a) (.tup b) = true) ∧ Q (.bl (dlt (.tup a) (.tup b)))
    | _, _ => False)
  | .le => (match res L x, res L y with
    | .int i, .int j => Q (.bl (decide (i ≤ j)))
    | _, _ => False)
  | .gt => (match res L x, res L y with
    | .int i, .int j => Q (.bl (decide (j < i)))
    | _, _ => False)
  | .ge => (match res L x, res L y with
    | .int i, .int j => Q (.bl (decide (j ≤ i)))
    | _, _ => False)
  | .is => isC L x y fun b => Q (.bl b)
  | .isnot => isC L x y fun b => Q (.bl (!b))
  | .isin => (match res L y with
    | .tup xs => (plain 60 x = true ∧ plain 60 (.tup xs) = true) ∧ Q (.bl (hasD x xs))
    | .lst xs => (plain 60 x = true ∧ plain 60 (.lst xs) = true) ∧ Q (.bl (hasD x xs))
    | .dct t ks _ => keyOk t x = true ∧ Q (.bl (dhas ks x))
    | _ => False)
  | .notin => (match res L y with
    | .tup xs => (plain 60 x = true ∧ plain 60 (.tup xs) = true) ∧ Q (.bl (!hasD x xs))
    | .lst xs => (plain 60 x = true ∧ plain 60 (.lst xs) = true) ∧ Q (.bl (!hasD x xs))
    | .dct t ks _ => keyOk t x = true ∧ Q (.bl (!dhas ks x))
    | _ => False)
end Nr
namespace Nr
open PySem PySem.Spec PyProof.Rows L2
section
variable {W : Wd} {m : Nb} {L : Hl} {H : Hp} {v u : V} {x y : D}
theorem res_cases (x : D) : res L x = x ∨ ∃ i, x = .obj i := by
  cases x <;> first | exact .inl rfl | exact .inr ⟨_, rfl⟩
theorem res_obj (L : Hl) (i : Nat) : (∃ xs, L[i]? = some (.lst xs) ∧ res L (.obj i) = .lst xs) ∨ (∃ t ks vs, L[i]? = some (.dct t ks vs) ∧ res L (.obj i) = .dct t ks vs) ∨ res L (.obj i) = .obj i := by
  cases q : L[i]? with
  | none => exact .inr (.inr (by simp [res, q]))
  | some o =>
    cases o with
    | lst xs => exact .inl ⟨xs, rfl, by simp [res, q]⟩
    | dct t ks vs => exact .inr (.inl ⟨t, ks, vs, rfl, by simp [res, q]⟩)
    | dead => exact .inr (.inr (by simp [res, q]))
    | ins c fs => exact .inr (.inr (by simp [res, q]))
theorem res_lst (rl : RepL W m L H) (r : RepV W m L H v x) {a : List D} (e : res L x = .lst a) : ∃ p vs, v = .ref p ∧ H p = some (.lst vs) ∧ RepVs W m L H vs a := by
  cases r with
  | lst h rv ap => cases e; exact ⟨_, _, rfl, h, rv⟩
  | obj hi =>
    rename_i i
    rcases res_obj L i with ⟨xs, h, q⟩ | ⟨t, ks, vs, h, q⟩ | q <;> rw [q] at e <;> cases e
    obtain ⟨vs, h1, h2⟩ := rl.ob _ _ h
    exact ⟨_, vs, rfl, h1, h2⟩
  | _ => cases e
theorem res_scr (r : RepV W m L H v x) {a : List D} (e : res L x = .scr a) : ∃ p vs, v = .ref p ∧ SqL W.K H p vs ∧ RepVs W m L H vs a ∧ ((∃ o, H p = some (.frz o (.lst vs))) ∨ KLst W.K p vs) := by
  cases r with
  | scr h rv ap => cases e; exact ⟨_, _, rfl, .inl (.inr ⟨_, h⟩), rv, .inl ⟨_, h⟩⟩
  | scrK h rv => cases e; exact ⟨_, _, rfl, .inr h, rv, .inr h⟩
  | obj hi =>
    rename_i i
    rcases res_obj L i with ⟨xs, h, q⟩ | ⟨t, ks, vs, h, q⟩ | q <;> rw [q] at e <;> cases e
  | _ => cases e
theorem res_tup (r : RepV W m L H v x) {a : List D} (e : res L x = .tup a) : x = .tup a ∧ ∃ p vs, v = .ref p ∧ SqT W.K H p vs ∧ RepVs W m L H vs a := by
  cases r with
  | tup h rv ap => cases e; exact ⟨rfl, _, _, rfl, .inl h, rv⟩
  | tupK h rv => cases e; exact ⟨rfl, _, _, rfl, .inr h, rv⟩
  | obj hi =>
    rename_i i
    rcases res_obj L i with ⟨xs, h, q⟩ | ⟨t, ks, vs, h, q⟩ | q <;> rw [q] at e <;> cases e
  | _ => cases e
theorem res_dct (rl : RepL W m L H) (r : RepV W m L H v x) {t : Bool} {ks vs : List D} (e : res L x = .dct t ks vs) : ∃ p kv vv, v = .ref p ∧ DctAt W H p t kv ks vv ∧ RepVs W m L H kv ks ∧ RepVs W m L H vv vs := by
  cases r with
  | dct h r1 r2 ap => cases e; exact ⟨_, _, _, rfl, h, r1, r2⟩
  | obj hi =>
    rename_i i
    rcases res_obj L i with ⟨xs, h, q⟩ | ⟨t, ks, vs, h, q⟩ | q <;> rw [q] at e <;> cases e
    obtain ⟨kv, vv, h1, h2, h3⟩ := rl.ob _ _ h
    exact ⟨_, kv, vv, rfl, h1, h2, h3⟩
  | _ => cases e
theorem res_int (r : RepV W m L H v x) {i : Int} (e : res L x = .int i) : v = .int i := by
  cases r with
  | int => cases e; rfl
  | obj hi =>
    rename_i i
    rcases res_obj L i with ⟨xs, h, q⟩ | ⟨t, ks, vs, h, q⟩ | q <;> rw [q] at e <;> cases e
  | _ => cases e
theorem res_bl (r : RepV W m L H v x) {i : Bool} (e : res L x = .bl i) : v = .bl i := by
  cases r with
  | bl => cases e; rfl
  | obj hi =>
    rename_i i
    rcases res_obj L i with ⟨xs, h, q⟩ | ⟨t, ks, vs, h, q⟩ | q <;> rw [q] at e <;> cases e
  | _ => cases e
theorem res_str (r : RepV W m L H v x) {i : Str} (e : res L x = .str i) : v = .str i ∧ PyData.strOk i = true := by
  cases r with
  | str _ h => cases e; exact ⟨rfl, h⟩
  | obj hi =>
    rename_i i
    rcases res_obj L i with ⟨xs, h, q⟩ | ⟨t, ks, vs, h, q⟩ | q <;> rw [q] at e <;> cases e
  | _ => cases e
theorem res_non (r : RepV W m L H v x) (e : res L x = .non) : v = .non := by
  cases r with
  | non => rfl
  | obj hi =>
    rename_i i
    rcases res_obj L i with ⟨xs, h, q⟩ | ⟨t, ks, vs, h, q⟩ | q <;> rw [q] at e <;> cases e
  | _ => cases e
/-- a new tuple, a new list -/
theorem rep_tup {p : Addr} {vs : List V} {ds : List D} (rl : RepL W m L H) (hp : H p = none) (r : RepVs W m L H vs ds) : RepV W m L (upd H p (.tup vs)) (.ref p) (.tup ds) :=
  .tup (.inl upd_same) (r.step (Step.laid hp)) (rl.free hp)
theorem rep_lst {p : Addr} {vs : List V} {ds : List D} (rl : RepL W m L H) (hp : H p = none) (r : RepVs W m L H vs ds) : RepV W m L (upd H p (.lst vs)) (.ref p) (.lst ds) :=
  .lst upd_same (r.step (Step.laid hp)) (rl.free hp)

/-! ### operators -/
def rAdd2 (K : PySem.W.Frag) : R2 := fun x y H Q => rI0 (fun i j => .int (i + j)) x y H Q ∨ (rCatA K x y H Q ∨ rCat x y H Q)
theorem or_add {X : Cx} : OpR X (binaryOp .Add) (rAdd2 X.K) := op_add.or (op_catA.or op_cat)
theorem b_add : Op2 W (rAdd2 W.K) addK := by
  intro m L H x y v u Q Qd rl rv ru h k
  unfold addK at h
  split at h
  · rename_i i j ex ey
    exact .inl ⟨i, j, res_int rv ex, res_int ru ey, k _ _ _ h (Nx.refl rl) (.int _)⟩
  · rename_i a b ex ey
    obtain ⟨rfl, p, vs, rfl, hv, r1⟩ := res_tup rv ex
    obtain ⟨rfl, q, us, rfl, hu, r2⟩ := res_tup ru ey
    refine .inr (.inl ⟨p, q, vs, us, rfl, rfl, hv, hu, by rw [r1.length, r2.length]; exact h.1, fun e => ?_, fun _ e => ?_, fun _ _ l hl => ?_⟩)
    · subst e
      cases r1
      exact k _ _ _ h.2 (Nx.refl rl) ru
    · subst e
      cases r2
      refine k _ _ _ h.2 (Nx.refl rl) ?_
      rw [List.append_nil]
      exact rv
    · exact k _ _ _ h.2 (Nx.laid rl hl) (rep_tup rl hl (r1.append r2))
  · rename_i a b ex ey
    obtain ⟨p, vs, rfl, hv, r1⟩ := res_lst rl rv ex
    obtain ⟨q, us, rfl, hu, r2⟩ := res_lst rl ru ey
    refine .inr (.inr ⟨p, q, vs, us, rfl, rfl, hv, hu, by rw [r1.length, r2.length]; exact h.1, fun l hl => ?_⟩)
    exact k _ _ _ h.2 (Nx.laid rl hl) (rep_lst rl hl (r1.append r2))
  · exact h.elim
def rMul2 (K : PySem.W.Frag) : R2 := fun x y H Q => rI CMul (fun i j => .int (i * j)) x y H Q ∨ (rI CMulW (fun i j => .int (i * j)) x y H Q ∨ (rRep x y H Q ∨ rRepT K x y H Q))
theorem or_mul {X : Cx} : OpR X (binaryOp .Mult) (rMul2 X.K) := op_mul.or (op_mulW.or (op_rep.or op_repT))
theorem b_mul : Op2 W (rMul2 W.K) mulK := by
  intro m L H x y v u Q Qd rl rv ru h k
  unfold mulK at h
  split at h
  · rename_i i j ex ey
    rcases h.1 with c | c
    · exact .inl ⟨i, j, res_int rv ex, res_int ru ey, c, k _ _ _ h.2 (Nx.refl rl) (.int _)⟩
    · exact .inr (.inl ⟨i, j, res_int rv ex, res_int ru ey, c, k _ _ _ h.2 (Nx.refl rl) (.int _)⟩)
  · rename_i a b ex ey
    obtain ⟨p, vs, rfl, hv, r1⟩ := res_lst rl rv ex
    refine .inr (.inr (.inl ⟨p, b, vs, rfl, res_int ru ey, hv, h.1.1, h.1.2.1, by rw [r1.length]; exact h.1.2.2, fun l hl => ?_⟩))
    exact k _ _ _ h.2 (Nx.laid rl hl) (rep_lst rl hl (r1.rep _))
  · rename_i a b ex ey
    obtain ⟨rfl, p, vs, rfl, hv, r1⟩ := res_tup rv ex
    obtain ⟨h1, h2, h3, h4⟩ := h.1
    refine .inr (.inr (.inr ⟨p, b, vs, rfl, res_int ru ey, hv, ?_, h2, h3, by rw [r1.length]; exact h4, fun l hl => ?_⟩))
    · intro e
      subst e
      cases r1
      exact h1 rfl
    · exact k _ _ _ h.2 (Nx.laid rl hl) (rep_tup rl hl (r1.rep _))
  · exact h.elim
theorem b_int {C : Int → Int → Prop} {g : Int → Int → Int} : Op2 W (rI C fun i j => .int (g i j)) (intK C fun i j => .int (g i j)) := by
  intro m L H x y v u Q Qd rl rv ru h k
  unfold intK at h
  split at h
  · rename_i i j ex ey
    exact ⟨i, j, res_int rv ex, res_int ru ey, h.1, k _ _ _ h.2 (Nx.refl rl) (.int _)⟩
  · exact h.elim
theorem b_int0 {g : Int → Int → Int} : Op2 W (rI0 fun i j => .int (g i j)) (intK (fun _ _ => True) fun i j => .int (g i j)) := by
  intro m L H x y v u Q Qd rl rv ru h k
  unfold intK at h
  split at h
  · rename_i i j ex ey
    exact ⟨i, j, res_int rv ex, res_int ru ey, k _ _ _ h.2 (Nx.refl rl) (.int _)⟩
  · exact h.elim
end
end Nr

/-! Comparisons, membership. -/
namespace Nr
open PySem PySem.Spec PyProof.Rows L2
section
variable {W : Wd} {m : Nb} {L : Hl} {H : Hp} {v u : V} {x y : D}
mutual
theorem dp_of : ∀ {v : V} {x : D}, RepV W m L H v x → ∀ n, plain n x = true → Dp W.K H v (toP x) ∧ (toP x).canLay0 = true ∧ (toP x).depth ≤ n
  | _, _, .non, n, _ => ⟨.non, by simp [toP, PyData.canLay0], by simp [toP, PyData.depth]⟩
  | _, _, .bl b, n, _ => ⟨.bl b, by simp [toP, PyData.canLay0], by simp [toP, PyData.depth]⟩
  | _, _, .int i, n, _ => ⟨.int i, by simp [toP, PyData.canLay0], by simp [toP, PyData.depth]⟩
  | _, _, .str x h, n, _ => ⟨.str x, by simp [toP, PyData.canLay0, h], by simp [toP, PyData.depth]⟩
  | _, _, .tup h r ap, n, hp => by
    cases n with
    | zero => simp [plain] at hp
    | succ n =>
      obtain ⟨h1, h2, h3⟩ := dps_of r n (by simpa only [plain] using hp)
      exact ⟨.tup (.inl h) h1, by simpa [toP, PyData.canLay0] using h2, by simp only [toP, PyData.depth]; omega⟩
  | _, _, .tupK h r, n, hp => by
    cases n with
    | zero => simp [plain] at hp
    | succ n =>
      obtain ⟨h1, h2, h3⟩ := dps_of r n (by simpa only [plain] using hp)
      exact ⟨.tup (.inr h) h1, by simpa [toP, PyData.canLay0] using h2, by simp only [toP, PyData.depth]; omega⟩
  | _, _, .lst h r ap, n, hp => by
    cases n with
    | zero => simp [plain] at hp
    | succ n =>
      obtain ⟨h1, h2, h3⟩ := dps_of r n (by simpa only [plain] using hp)
      exact ⟨.lst (SqL.of h) h1, by simpa [toP, PyData.canLay0] using h2, by simp only [toP, PyData.depth]; omega⟩
  | _, _, .scr _ _ _, n, hp => by cases n <;> simp [plain] at hp
  | _, _, .scrK _ _, n, hp => by cases n <;> simp [plain] at hp
  | _, _, .dct _ _ _ _, n, hp => by cases n <;> simp [plain] at hp
  | _, _, .obj _, n, hp => by cases n <;> simp [plain] at hp
  | _, _, .exc _ _, n, hp => by cases n <;> simp [plain] at hp
theorem dps_of : ∀ {vs : List V} {xs : List D}, RepVs W m L H vs xs → ∀ n, xs.all (plain n) = true → DpAll W.K H vs (toP.toPs xs) ∧ PyData.canLayAll0 (toP.toPs xs) = true ∧ PyData.depthAll (toP.toPs xs) ≤ n
  | _, _, .nil, n, _ => ⟨.nil, by simp [toP.toPs, PyData.canLayAll0], by simp [toP.toPs, PyData.depthAll]⟩
  | _, _, .cons r rs, n, hp => by
    rw [List.all_cons, Bool.and_eq_true] at hp
    obtain ⟨h1, h2, h3⟩ := dp_of r n hp.1
    obtain ⟨g1, g2, g3⟩ := dps_of rs n hp.2
    exact ⟨.cons h1 g1, by simp [toP.toPs, PyData.canLayAll0, h2, g2], by simp only [toP.toPs, PyData.depthAll]; omega⟩
end
/-- .. a list by its number too -/
theorem dp_res (rl : RepL W m L H) (r : RepV W m L H v x) {n : Nat} (hp : plain n (res L x) = true) : Dp W.K H v (toP (res L x)) ∧ (toP (res L x)).canLay0 = true ∧ (toP (res L x)).depth ≤ n := by
  rcases res_cases (L := L) x with e | ⟨i, rfl⟩
  · rw [e] at hp ⊢
    exact dp_of r n hp
  · rcases res_obj L i with ⟨xs, h, q⟩ | ⟨t, ks, vs, h, q⟩ | q
    · rw [q] at hp ⊢
      obtain ⟨p, vs, rfl, h1, h2⟩ := res_lst rl r q
      cases n with
      | zero => simp [plain] at hp
      | succ n =>
        obtain ⟨g1, g2, g3⟩ := dps_of h2 n (by simpa only [plain] using hp)
        exact ⟨.lst (SqL.of h1) g1, by simpa [toP, PyData.canLay0] using g2, by simp only [toP, PyData.depth]; omega⟩
    · rw [q] at hp
      cases n <;> simp [plain] at hp
    · rw [q] at hp
      cases n <;> simp [plain] at hp
theorem shaped_of {d : PyData} (h1 : d.canLay0 = true) {n : Nat} (h2 : d.depth ≤ n) (h3 : n ≤ 64) : SeqAt.shaped d = true := by
  unfold SeqAt.shaped
  rw [h1]
  simp
  omega
theorem c_eq : Op2 W (rEqD W.K) (cmpK .eq) := by
  intro m L H x y v u Q Qd rl rv ru h k
  obtain ⟨⟨h1, h2⟩, h⟩ := h
  obtain ⟨a1, a2, a3⟩ := dp_res rl rv h1
  obtain ⟨b1, b2, b3⟩ := dp_res rl ru h2
  exact ⟨_, _, a1, b1, shaped_of a2 a3 (by decide), shaped_of b2 b3 (by decide), k _ _ _ h (Nx.refl rl) (.bl _)⟩
theorem c_ne : Op2 W (rNeD W.K) (cmpK .ne) := by
  intro m L H x y v u Q Qd rl rv ru h k
  obtain ⟨⟨h1, h2⟩, h⟩ := h
  obtain ⟨a1, a2, a3⟩ := dp_res rl rv h1
  obtain ⟨b1, b2, b3⟩ := dp_res rl ru h2
  exact ⟨_, _, a1, b1, shaped_of a2 a3 (by decide), shaped_of b2 b3 (by decide), k _ _ _ h (Nx.refl rl) (.bl _)⟩

/-! ### order -/
def rLtD (K : PySem.W.Frag) : R2 := fun x y H Q => ∃ d e xs, d = PyData.tuple xs ∧ Dp K H x d ∧ Dp K H y e ∧ PySem.W.alike d e = true ∧ SeqAt.shaped d = true ∧ SeqAt.shaped e = true ∧ Q (.bl (PySem.W.dataLt d e)) H
theorem op_ltD {X : Cx} (hu : X.A.units + 64 < cLine) : OpR X (compareOp .Lt) (rLtD X.K) := by
  intro pins s σ H x y v u Q I rx ry h
  obtain ⟨d, e, xs, rfl, hd, he, al, sd, se, q⟩ := h
  obtain ⟨as, r1⟩ := Dp.reads I _ x v hd rx
  obtain ⟨bs, r2⟩ := Dp.reads I e y u he ry
  have hdep : (PyData.tuple xs).depth ≤ 64 := by
    unfold SeqAt.shaped at sd
    simp at sd
    exact sd.2
  have := PySem.W.rcLt_alike _ e X.A s v u as bs r1 r2 al (fun z => nomatch z) (by omega)
  exact this _ _ _ _ ⟨.bl _, H, I, rfl, q⟩

def rLt2 (K : PySem.W.Frag) : R2 := fun x y H Q => rI0 (fun i j => .bl (decide (i < j))) x y H Q ∨ rLtD K x y H Q
theorem or_lt {X : Cx} (hu : X.A.units + 64 < cLine) : OpR X (compareOp .Lt) (rLt2 X.K) := op_lt.or (op_ltD hu)
theorem c_lt : Op2 W (rLt2 W.K) (cmpK .lt) := by
  intro m L H x y v u Q Qd rl rv ru h k
  unfold cmpK at h
  dsimp only at h
  split at h
  · rename_i i j ex ey
    exact .inl ⟨i, j, res_int rv ex, res_int ru ey, k _ _ _ h (Nx.refl rl) (.bl _)⟩
  · rename_i a b ex ey
    obtain ⟨⟨h1, h2, h3⟩, h⟩ := h
    obtain ⟨rfl, _⟩ := res_tup rv ex
    obtain ⟨rfl, _⟩ := res_tup ru ey
    obtain ⟨a1, a2, a3⟩ := dp_of rv 60 h1
    obtain ⟨b1, b2, b3⟩ := dp_of ru 60 h2
    exact .inr ⟨_, _, _, rfl, a1, b1, h3, shaped_of a2 a3 (by decide), shaped_of b2 b3 (by decide), k _ _ _ h (Nx.refl rl) (.bl _)⟩
  · exact h.elim
theorem c_int {C : C2} {g : Int → Int → Bool} (hC : ∀ L x y Q, cmpK C L x y Q → ∃ i j, res L x = .int i ∧ res L y = .int j ∧ Q (.bl (g i j))) : Op2 W (rI0 fun i j => .bl (g i j)) (cmpK C) := by
  intro m L H x y v u Q Qd rl rv ru h k
  obtain ⟨i, j, ex, ey, h⟩ := hC _ _ _ _ h
  exact ⟨i, j, res_int rv ex, res_int ru ey, k _ _ _ h (Nx.refl rl) (.bl _)⟩
theorem c_le : Op2 W (rI0 fun i j => .bl (decide (i ≤ j))) (cmpK .le) := c_int (g := fun i j => decide (i ≤ j)) fun L x y Q h => by
  unfold cmpK at h
  dsimp only at h
  split at h
  · rename_i i j ex ey; exact ⟨i, j, ex, ey, h⟩
  · exact h.elim
theorem c_gt : Op2 W (rI0 fun i j => .bl (decide (j < i))) (cmpK .gt) := c_int (g := fun i j => decide (j < i)) fun L x y Q h => by
  unfold cmpK at h
  dsimp only at h
  split at h
  · rename_i i j ex ey; exact ⟨i, j, ex, ey, h⟩
  · exact h.elim
theorem c_ge : Op2 W (rI0 fun i j => .bl (decide (j ≤ i))) (cmpK .ge) := c_int (g := fun i j => decide (j ≤ i)) fun L x y Q h => by
  unfold cmpK at h
  dsimp only at h
  split at h
  · rename_i i j ex ey; exact ⟨i, j, ex, ey, h⟩
  · exact h.elim

/-! ### is -/
def rIs2 : R2 := fun x y H Q => (y = .non ∧ Q (.bl (decide (x = .non))) H) ∨ ∃ a b, x = .bl a ∧ y = .bl b ∧ Q (.bl (decide (a = b))) H
def rIsnot2 : R2 := fun x y H Q => (y = .non ∧ Q (.bl (!decide (x = .non))) H) ∨ ∃ a b, x = .bl a ∧ y = .bl b ∧ Q (.bl (!decide (a = b))) H
theorem or_is {X : Cx} : OpR X (compareOp .Is) rIs2 := op_isN.or op_is_bl
theorem or_isnot {X : Cx} : OpR X (compareOp .IsNot) rIsnot2 := op_notN.or op_isnot_bl
theorem non_iff (r : RepV W m L H v x) : decide (v = .non) = isNon x := by
  cases r <;> simp [isNon]
theorem c_is : Op2 W rIs2 (cmpK .is) := by
  intro m L H x y v u Q Qd rl rv ru h k
  have h : isC L x y fun b => Qd (.bl b) := h
  unfold isC at h
  cases ru with
  | non => exact .inl ⟨rfl, by rw [non_iff rv]; exact k _ _ _ h (Nx.refl rl) (.bl _)⟩
  | bl b =>
    dsimp only at h
    cases rv with
    | bl a =>
      refine .inr ⟨a, b, rfl, rfl, k _ _ _ h (Nx.refl rl) ?_⟩
      cases a <;> cases b <;> exact .bl _
    | _ => exact h.elim
  | _ => exact h.elim
theorem c_isnot : Op2 W rIsnot2 (cmpK .isnot) := by
  intro m L H x y v u Q Qd rl rv ru h k
  have h : isC L x y fun b => Qd (.bl (!b)) := h
  unfold isC at h
  cases ru with
  | non => exact .inl ⟨rfl, by rw [non_iff rv]; exact k _ _ _ h (Nx.refl rl) (.bl _)⟩
  | bl b =>
    dsimp only at h
    cases rv with
    | bl a =>
      refine .inr ⟨a, b, rfl, rfl, k _ _ _ h (Nx.refl rl) ?_⟩
      cases a <;> cases b <;> exact .bl _
    | _ => exact h.elim
  | _ => exact h.elim

/-! ### in -/
def rInT (K : PySem.W.Frag) : R2 := fun x y H Q => ∃ d ds, Dp K H x d ∧ Dp K H y (.tuple ds) ∧ SeqAt.shaped d = true ∧ SeqAt.shaped (.tuple ds) = true ∧ Q (.bl (ds.any fun z => PyData.eqv z d)) H
def rNotInT (K : PySem.W.Frag) : R2 := fun x y H Q => ∃ d ds, Dp K H x d ∧ Dp K H y (.tuple ds) ∧ SeqAt.shaped d = true ∧ SeqAt.shaped (.tuple ds) = true ∧ Q (.bl (!ds.any fun z => PyData.eqv z d)) H
theorem op_inT {X : Cx} (hu : X.A.units + 65 < cLine) : OpR X (compareOp .In) (rInT X.K) := by
  intro pins s σ H x y v u Q I rx ry ⟨d, ds, hd, he, sd, se, q⟩
  obtain ⟨as, g1⟩ := Dp.reads I d x v hd rx
  obtain ⟨bs, g2⟩ := Dp.reads I (.tuple ds) y u he ry
  exact SeqAt.in_tuple_reads g2 g1 (SeqAt.canLay_of_shaped se) (SeqAt.canLay_of_shaped sd) (PyProof.Rows.room_in_shaped sd hu) ⟨.bl _, H, I, rfl, q⟩
theorem op_notInT {X : Cx} (hu : X.A.units + 65 < cLine) : OpR X (compareOp .NotIn) (rNotInT X.K) := by
  intro pins s σ H x y v u Q I rx ry ⟨d, ds, hd, he, sd, se, q⟩
  obtain ⟨as, g1⟩ := Dp.reads I d x v hd rx
  obtain ⟨bs, g2⟩ := Dp.reads I (.tuple ds) y u he ry
  exact SeqAt.notIn_tuple_reads g2 g1 (SeqAt.canLay_of_shaped se) (SeqAt.canLay_of_shaped sd) (PyProof.Rows.room_in_shaped sd hu) ⟨.bl _, H, I, rfl, q⟩
theorem any_toPs (f : PyData → Bool) : ∀ xs : List D, (toP.toPs xs).any f = xs.any fun z => f (toP z)
  | [] => rfl
  | x :: xs => by simp only [toP.toPs, List.any_cons, any_toPs f xs]
end
end Nr

/-! What the small language does to data. -/
namespace Nr
open PySem PySem.Spec PyProof.Rows L2

abbrev XH := Str → Hl → Prop
/-- what the defs of the module do: the contracts -/
abbrev Phi := Str → List D → Hl → QE → XH → Prop
abbrev NoE : XH := fun _ _ => False

/-! ### values, more -/
def seqOf (L : Hl) (d : D) : Option (List D) :=
  match res L d with
  | .tup xs => some xs
  | .lst xs => some xs
  | .scr xs => some xs
  | _ => none
/-- a sequence's items -/
def seqK (L : Hl) (d : D) (Q : List D → Prop) : Prop :=
  match res L d with
  | .tup xs => Q xs
  | .lst xs => Q xs
  | .scr xs => Q xs
  | _ => False
/-- .. or a dict's keys -/
def seqDK (L : Hl) (d : D) (Q : List D → Prop) : Prop :=
  match res L d with
  | .dct _ ks _ => Q ks
  | _ => seqK L d Q
def lenK (L : Hl) (d : D) (Q : D → Prop) : Prop :=
  match res L d with
  | .tup xs => Q (.int xs.length)
  | .lst xs => Q (.int xs.length)
  | .scr xs => Q (.int xs.length)
  | .dct _ ks _ => Q (.int ks.length)
  | .str x => x.length ≤ sizeLine ∧ Q (.int x.length)
  | _ => False
/-- d[i] -/
def idxK (L : Hl) (d i : D) (Q : D → Prop) : Prop :=
  match res L d, i with
  | .tup xs, .int i => ∃ v, atI xs i = some v ∧ Q v
  | .lst xs, .int i => ∃ v, atI xs i = some v ∧ Q v
  | .scr xs, .int i => ∃ v, atI xs i = some v ∧ Q v
  | .dct t ks vs, i => keyOk t i = true ∧ ∃ v, dget ks vs i = some v ∧ Q v
  | _, _ => False
/-- d.get(k, x) -/
def dgetK (L : Hl) (d k x : D) (Q : D → Prop) : Prop :=
  match res L d with
  | .dct t ks vs => keyOk t k = true ∧ Q ((dget ks vs k).getD x)
  | _ => False
/-- a numbered list, or dict, that nobody changes any more -/
def giveK (L : Hl) (n : Nat) (Q : D → Hl → Prop) : Prop :=
  match L[n]? with
  | some (.lst xs) => Q (.lst xs) (L.set n .dead)
  | some (.dct t ks vs) => Q (.dct t ks vs) (L.set n .dead)
  | _ => False
def dctAt (L : Hl) (d : D) : Prop := ∃ t ks vs, res L d = .dct t ks vs
def cutD (xs : List D) (lo hi : Option Int) : List D := (xs.drop (HT.sIx xs.length 0 lo)).take (HT.sIx xs.length xs.length hi - HT.sIx xs.length 0 lo)
def slcK (L : Hl) (d : D) (lo hi : Option Int) (Q : D → Prop) : Prop :=
  match res L d with
  | .tup xs => Q (.tup (cutD xs lo hi))
  | .lst xs => Q (.lst (cutD xs lo hi))
  | .scr xs => Q (.lst (cutD xs lo hi))
  | _ => False
inductive Tn where | non | bl | int | str | tup | lst | dct
  deriving DecidableEq
def tnOf (L : Hl) (d : D) : Option Tn :=
  match res L d with
  | .non => some .non
  | .bl _ => some .bl
  | .int _ => some .int
  | .str _ => some .str
  | .tup _ => some .tup
  | .lst _ => some .lst
  | .scr _ => some .lst
  | .dct _ _ _ => some .dct
  | _ => none
def tnIs : Ty → Tn → Bool
  | .int, .int => true
  | .int, .bl => true
  | .bool, .bl => true
  | .str, .str => true
  | .tuple, .tup => true
  | .list, .lst => true
  | .dict, .dct => true
  | .seq, .tup => true
  | .seq, .lst => true
  | _, _ => false
def isTy (t : Ty) (L : Hl) (d : D) (Q : Bool → Prop) : Prop :=
  match t with
  | .cls c xs => (match d with
    | .exc c' => c' ∈ xs ∧ Q (exSub c' c)
    | _ => False)
  | t => ∃ n, tnOf L d = some n ∧ Q (tnIs t n)
/-- ints of a list -/
def intsOf : List D → Option (List Int)
  | [] => some []
  | .int i :: xs => (intsOf xs).map (i :: ·)
  | _ :: _ => none
def blsOf : List D → Option (List Bool)
  | [] => some []
  | .bl i :: xs => (blsOf xs).map (i :: ·)
  | _ :: _ => none
def leastD (x : D) (xs : List D) : D := xs.foldl (fun a z => if dlt z a = true then z else a) x
def mostD (x : D) (xs : List D) : D := xs.foldl (fun a z => if dlt a z = true then z else a) x
def sortD (xs : List D) : List D := xs.mergeSort fun a b => !dlt b a
def isTup1 : D → Bool
  | .tup (_ :: _) => true
  | _ => false
def isAtom : D → Bool
  | .bl _ | .int _ | .str _ | .lst _ => true
  | _ => false
/-- data that compare with one another -/
def alikes (xs : List D) : Bool := xs.all (plain 60) && xs.all (fun x => xs.all fun y => alikeD x y)
/-- data that sorted takes -/
def sortable (xs : List D) : Prop := alikes xs = true ∧ (xs.all isTup1 = true ∨ xs.all isAtom = true ∨ xs = [.tup []])
def biK (b : Bi) (L : Hl) (args : List D) (Q : D → Prop) : Prop :=
  match b, args with
  | .len, [x] => lenK L x Q
  | .abs, [.int i] => Q (.int (if i < 0 then -i else i))
  | .int, [.int i] => Q (.int i)
  | .int, [.bl b] => Q (.int (if b then 1 else 0))
  | .min, [.int i, .int j] => Q (.int (if j < i then j else i))
  | .max, [.int i, .int j] => Q (.int (if j > i then j else i))
  | .sum, [x] => (match res L x with
    | .lst xs => ∃ ns, intsOf xs = some ns ∧ Q (.int ns.sum)
    | _ => False)
  | .all, [x] => (match res L x with
    | .lst xs => ∃ bs, blsOf xs = some bs ∧ Q (.bl (bs.all id))
    | _ => False)
  | .any, [x] => (match res L x with
    | .lst xs => ∃ bs, blsOf xs = some bs ∧ Q (.bl (bs.any id))
    | _ => False)
  | .tuple, [x] => seqK L x fun xs => Q (.tup xs)
  | .min1, [x] => seqK L x fun xs => match xs with
    | y :: ys => (alikes (y :: ys) = true ∧ (y :: ys).all (fun z => !isNon z) = true) ∧ Q (leastD y ys)
    | [] => False
  | .max1, [x] => seqK L x fun xs => match xs with
    | y :: ys => (alikes (y :: ys) = true ∧ (y :: ys).all (fun z => !isNon z) = true) ∧ Q (mostD y ys)
    | [] => False
  | _, _ => False

/-- a list -/
def lstAt (L : Hl) (d : D) : Prop := ∃ xs, res L d = .lst xs
/-- the place of the first equal one -/
def firstAt (x : D) (xs : List D) : Option Nat := xs.findIdx? fun z => deq z x
def methK (t : Mt) (L : Hl) (x : D) (args : List D) (Q : QE) : Prop :=
  match t, x, args with
  | .append, .obj n, [v] => ∃ xs, L[n]? = some (.lst xs) ∧ xs.length < sizeLine ∧ Q .non (L.set n (.lst (xs ++ [v])))
  | .pop, .obj n, [] => ∃ xs y, L[n]? = some (.lst xs) ∧ xs[xs.length - 1]? = some y ∧ Q y (L.set n (.lst xs.dropLast))
  | .pop, .obj n, [.int i] => ∃ xs k y, L[n]? = some (.lst xs) ∧ -(2 ^ 63) ≤ i ∧ i < 2 ^ 63 ∧ seqIndex? i xs.length = some k ∧ xs[k]? = some y ∧ Q y (L.set n (.lst (xs.eraseIdx k)))
  | .extend, .obj n, [d] => ∃ xs ys, L[n]? = some (.lst xs) ∧ res L d = .lst ys ∧ d ≠ .obj n ∧ xs.length + ys.length ≤ sizeLine ∧ Q .non (L.set n (.lst (xs ++ ys)))
  | .insert, .obj n, [.int i, v] => ∃ xs, L[n]? = some (.lst xs) ∧ xs.length < sizeLine ∧ 0 ≤ i ∧ i < 2 ^ 63 ∧ Q .non (L.set n (.lst (xs.take i.toNat ++ [v] ++ xs.drop i.toNat)))
  | .index, d, [v] => ∃ xs j, res L d = .lst xs ∧ (plain 60 v = true ∧ plain 60 (.lst xs) = true) ∧ firstAt v xs = some j ∧ Q (.int (j : Nat)) L
  | _, _, _ => False

/-! ### walking -/
/-- what is walked: items that nothing changes, or a numbered list, that must stand as it stood -/
inductive Src where
  | fixed (xs : List D) | live (i : Nat) (xs : List D)
def Src.items : Src → List D
  | .fixed xs => xs
  | .live _ xs => xs
def Src.ok : Src → Hl → Prop
  | .fixed _, _ => True
  | .live i xs, L => L[i]? = some (.lst xs)
def srcK (L : Hl) (d : D) (Q : Src → Prop) : Prop :=
  match d with
  | .tup xs => Q (.fixed xs)
  | .lst xs => Q (.fixed xs)
  | .scr xs => Q (.fixed xs)
  | .obj i => (match L[i]? with
    | some (.lst xs) => Q (.live i xs)
    | _ => False)
  | _ => False
def rngD (a b : Int) : List D := (List.range (b - a).toNat).map fun i => .int (a + (i : Nat))
def smallR (a : Int) : Prop := -(2 ^ 62) ≤ a ∧ a < 2 ^ 62
def enumD : Nat → List D → List D
  | _, [] => []
  | n, x :: xs => .tup [.int (n : Int), x] :: enumD (n + 1) xs
def zipD : List D → List D → List D
  | x :: xs, y :: ys => .tup [x, y] :: zipD xs ys
  | _, _ => []
/-- a comprehension's loop -/
def lcR (s : Src) (t : D → Hl → (Option D → Hl → Prop) → Prop) (Q : List D → Hl → Prop) : List D → List D → Hl → Prop
  | [], acc, L => s.ok L ∧ Q acc L
  | x :: xs, acc, L => s.ok L ∧ t x L fun o L1 => match o with
    | none => lcR s t Q xs acc L1
    | some y => acc.length < sizeLine ∧ lcR s t Q xs (acc ++ [y]) L1
/-- the loop of the first clause of two -/
def lcR2 (s : Src) (t : D → List D → Hl → (List D → Hl → Prop) → Prop) (Q : List D → Hl → Prop) : List D → List D → Hl → Prop
  | [], acc, L => s.ok L ∧ Q acc L
  | x :: xs, acc, L => s.ok L ∧ t x acc L fun acc1 L1 => lcR2 s t Q xs acc1 L1
/-- a dict comprehension's -/
def dcR (t : Bool) (s : Src) (tt : D → Hl → (Option (D × D) → Hl → Prop) → Prop) (Q : List D → List D → Hl → Prop) : List D → List D → List D → Hl → Prop
  | [], ks, vs, L => s.ok L ∧ Q ks vs L
  | x :: xs, ks, vs, L => s.ok L ∧ tt x L fun o L1 => match o with
    | none => dcR t s tt Q xs ks vs L1
    | some (y, z) => (keyOk t y = true ∧ ks.length < sizeLine) ∧ dcR t s tt Q xs (dputK ks y) (dputV ks vs y z) L1
def wipeD (ds : Ds) : List Nat → Ds
  | [] => ds
  | v :: vs => (wipeD ds vs).set v none
mutual
def semG : IG → D → Ds → (Ds → Prop) → Prop
  | .n i, d, ds, k => k (ds.set i (some d))
  | .t gs, d, ds, k => (match d with
    | .tup xs => semGs gs xs ds k
    | .lst xs => semGs gs xs ds k
    | _ => False)
def semGs : IGs → List D → Ds → (Ds → Prop) → Prop
  | .nil, [], ds, k => k ds
  | .cons g gs, x :: xs, ds, k => semG g x ds fun ds1 => semGs gs xs ds1 k
  | _, _, _, _ => False
end
def optI (d : D) (Q : Option Int → Prop) : Prop :=
  match d with
  | .int i => Q (some i)
  | _ => False
def IEs.len : IEs → Nat
  | .nil => 0
  | .cons _ es => es.len + 1
def isOmit : IE → Bool
  | .omit => true
  | _ => false
/-- a part of a slice -/
def partK (o : Bool) (t : Hl → QE → Prop) (L : Hl) (Q : Option Int → Hl → Prop) : Prop := if o = true then Q none L else t L fun x L1 => optI x fun o => Q o L1
/-- some of the arguments, put in the parameters' order -/
def permD (perm : List Nat) (xs : List D) : List D := perm.filterMap fun i => xs[i]?

section
variable (Φ : Phi)
mutual
def semE : IE → XH → Ds → Hl → QE → Prop
  | .var i, _, ds, L, Q => ∃ d, ds[i]? = some (some d) ∧ Q d L
  | .int i, _, _, L, Q => Q (.int i) L
  | .str x, _, _, L, Q => Q (.str x) L
  | .bl b, _, _, L, Q => Q (.bl b) L
  | .non, _, _, L, Q => Q .non L
  | .gint _ i, _, _, L, Q => Q (.int i) L
  | .omit, _, _, _, _ => False
  | .tup es, E, ds, L, Q => semEs es E ds L fun xs L1 => xs.length ≤ sizeLine ∧ Q (.tup xs) L1
  | .frz f, E, ds, L, Q => semF f E ds L fun xs L1 => Q (.lst xs) L1
  | .newl f, E, ds, L, Q => semF f E ds L fun xs L1 => Q (.obj L1.length) (L1 ++ [.lst xs])
  | .frzd f, E, ds, L, Q => semD f E ds L fun t ks vs L1 => Q (.dct t ks vs) L1
  | .newd f, E, ds, L, Q => semD f E ds L fun t ks vs L1 => Q (.obj L1.length) (L1 ++ [.dct t ks vs])
  | .bin o a b, E, ds, L, Q => semE a E ds L fun x L1 => semE b E ds L1 fun y L2 => binK o L2 x y fun z => Q z L2
  | .cmp o a b, E, ds, L, Q => semE a E ds L fun x L1 => semE b E ds L1 fun y L2 => cmpK o L2 x y fun z => Q z L2
  | .chain o o' a b c, E, ds, L, Q => semE a E ds L fun x L1 => semE b E ds L1 fun y L2 => cmpK o L2 x y fun z => (match z with
    | .bl true => semE c E ds L2 fun w L3 => cmpK o' L3 y w fun z => Q z L3
    | .bl false => Q (.bl false) L2
    | _ => False)
  | .neg a, E, ds, L, Q => semE a E ds L fun x L1 => (match x with
    | .int i => Q (.int (-i)) L1
    | _ => False)
  | .not a, E, ds, L, Q => semE a E ds L fun x L1 => truthK L1 x fun b => Q (.bl (!b)) L1
  | .and es, E, ds, L, Q => semAnd es E ds L Q
  | .or es, E, ds, L, Q => semOr es E ds L Q
  | .ite c a b, E, ds, L, Q => semE c E ds L fun x L1 => truthK L1 x fun k => if k = true then semE a E ds L1 Q else semE b E ds L1 Q
  | .idx a b, E, ds, L, Q => semE a E ds L fun x L1 => semE b E ds L1 fun y L2 => idxK L2 x y fun z => Q z L2
  | .slc a lo hi, E, ds, L, Q => semE a E ds L fun x L1 => partK (isOmit lo) (semE lo E ds) L1 fun l L2 => partK (isOmit hi) (semE hi E ds) L2 fun u L3 => slcK L3 x l u fun z => Q z L3
  | .call f es, E, ds, L, Q => semEs es E ds L fun xs L1 => Φ f xs L1 Q E
  | .callk f es ks perm, E, ds, L, Q => semEs es E ds L fun xs L1 => semEs ks E ds L1 fun ys L2 => (xs.length = es.len ∧ ys.length = ks.len) ∧ Φ f (permD perm (xs ++ ys)) L2 Q E
  | .bi b es, E, ds, L, Q => semEs es E ds L fun xs L1 => biK b L1 xs fun z => Q z L1
  | .tupr r, E, ds, L, Q => semR r E ds L fun i j L1 => RgOk i j ∧ Q (.tup (rngD i j)) L1
  | .isi a t, E, ds, L, Q => semE a E ds L fun x L1 => isTy t L1 x fun b => Q (.bl b) L1
  | .give i, _, ds, L, Q => ∃ n, ds[i]? = some (some (.obj n)) ∧ giveK L n Q
  | .dget a k d, E, ds, L, Q => semE a E ds L fun x L1 => dctAt L1 x ∧ semE k E ds L1 fun y L2 => semE d E ds L2 fun z L3 => dgetK L3 x y z fun u => Q u L3
  | .meth m a es, E, ds, L, Q => semE a E ds L fun x L1 => lstAt L1 x ∧ semEs es E ds L1 fun xs L2 => methK m L2 x xs Q
def semAnd : IEs → XH → Ds → Hl → QE → Prop
  | .nil, _, _, _, _ => False
  | .cons e .nil, E, ds, L, Q => semE e E ds L Q
  | .cons e es, E, ds, L, Q => semE e E ds L fun x L1 => truthK L1 x fun k => if k = true then semAnd es E ds L1 Q else Q x L1
def semOr : IEs → XH → Ds → Hl → QE → Prop
  | .nil, _, _, _, _ => False
  | .cons e .nil, E, ds, L, Q => semE e E ds L Q
  | .cons e es, E, ds, L, Q => semE e E ds L fun x L1 => truthK L1 x fun k => if k = true then Q x L1 else semOr es E ds L1 Q
def semEs : IEs → XH → Ds → Hl → (List D → Hl → Prop) → Prop
  | .nil, _, _, L, Q => Q [] L
  | .cons e es, E, ds, L, Q => semE e E ds L fun x L1 => semEs es E ds L1 fun xs L2 => Q (x :: xs) L2
/-- the tests of a comprehension -/
def semIf : IEs → XH → Ds → Hl → (Bool → Hl → Prop) → Prop
  | .nil, _, _, L, Q => Q true L
  | .cons e _, E, ds, L, Q => semE e E ds L fun x L1 => truthK L1 x fun b => Q b L1
def semF : IF → XH → Ds → Hl → (List D → Hl → Prop) → Prop
  | .disp es, E, ds, L, Q => semEs es E ds L fun xs L1 => xs.length ≤ sizeLine ∧ Q xs L1
  | .of e, E, ds, L, Q => semE e E ds L fun x L1 => seqK L1 x fun xs => Q xs L1
  | .rng r, E, ds, L, Q => semR r E ds L fun i j L1 => RgOk i j ∧ Q (rngD i j) L1
  | .sorted e, E, ds, L, Q => semE e E ds L fun x L1 => seqDK L1 x fun xs => (sortable xs ∧ xs.length ≤ sizeLine) ∧ Q (sortD xs) L1
  | .cat a b, E, ds, L, Q => semE a E ds L fun x L1 => semE b E ds L1 fun y L2 => (match res L2 x, res L2 y with
    | .lst xs, .lst ys => xs.length + ys.length ≤ sizeLine ∧ Q (xs ++ ys) L2
    | _, _ => False)
  | .rep a b, E, ds, L, Q => semE a E ds L fun x L1 => semE b E ds L1 fun y L2 => (match res L2 x, y with
    | .lst xs, .int k => (-(2 ^ 63) ≤ k ∧ k < 2 ^ 63 ∧ xs.length * k.toNat ≤ sizeLine) ∧ Q (List.replicate k.toNat xs).flatten L2
    | _, _ => False)
  | .lc own e g it ifs, E, ds, L, Q => semI it E ds L fun s L1 => lcR s (fun x L2 k => semG g x (wipeD ds own) fun ds2 => semIf ifs NoE ds2 L2 fun b L3 =>
      if b = true then semE e NoE ds2 L3 fun y L4 => k (some y) L4 else k none L3) Q s.items [] L1
  | .lc2 own own1 e g it ifs g1 it1 ifs1, E, ds, L, Q => semI it E ds L fun s L1 => lcR2 s (fun x acc L2 k => semG g x (wipeD ds own) fun ds2 => semIf ifs NoE ds2 L2 fun b L3 =>
      if b = true then semI it1 NoE ds2 L3 fun s1 L4 => lcR s1 (fun x1 L5 k1 => semG g1 x1 (wipeD ds2 own1) fun ds3 => semIf ifs1 NoE ds3 L5 fun b1 L6 =>
        if b1 = true then semE e NoE ds3 L6 fun y L7 => k1 (some y) L7 else k1 none L6) k s1.items acc L4 else k acc L3) Q s.items [] L1
def semD : ID → XH → Ds → Hl → (Bool → List D → List D → Hl → Prop) → Prop
  | .nil t, _, _, L, Q => Q t [] [] L
  | .dc t own k v g it ifs, E, ds, L, Q => semI it E ds L fun s L1 => dcR t s (fun x L2 c => semG g x (wipeD ds own) fun ds2 => semIf ifs NoE ds2 L2 fun b L3 =>
      if b = true then semE k NoE ds2 L3 fun y L4 => semE v NoE ds2 L4 fun z L5 => c (some (y, z)) L5 else c none L3) (fun ks vs L => Q t ks vs L) s.items [] [] L1
  | .one t k v, E, ds, L, Q => semE k E ds L fun y L1 => semE v E ds L1 fun z L2 => keyOk t y = true ∧ Q t [y] [z] L2
  | .of _, _, _, _, _ => False
def semR : IR → XH → Ds → Hl → (Int → Int → Hl → Prop) → Prop
  | .one b, E, ds, L, Q => semE b E ds L fun y L1 => (match y with
    | .int j => Q 0 j L1
    | _ => False)
  | .two a b, E, ds, L, Q => semE a E ds L fun x L1 => semE b E ds L1 fun y L2 => (match x, y with
    | .int i, .int j => Q i j L2
    | _, _ => False)
def semI : II → XH → Ds → Hl → (Src → Hl → Prop) → Prop
  | .seq e, E, ds, L, Q => semE e E ds L fun x L1 => srcK L1 x fun s => Q s L1
  | .rng r, E, ds, L, Q => semR r E ds L fun i j L1 => (smallR i ∧ smallR j) ∧ Q (.fixed (rngD i j)) L1
  | .enum a, E, ds, L, Q => semE a E ds L fun x L1 => (match x with
    | .tup xs => Q (.fixed (enumD 0 xs)) L1
    | .lst xs => Q (.fixed (enumD 0 xs)) L1
    | _ => False)
  | .zip a b, E, ds, L, Q => semE a E ds L fun x L1 => semE b E ds L1 fun y L2 => (match x, y with
    | .tup xs, .tup ys => Q (.fixed (zipD xs ys)) L2
    | .lst xs, .lst ys => Q (.fixed (zipD xs ys)) L2
    | _, _ => False)
end
end

/-! ### statements -/
abbrev XS := Str → Ds → Hl → Prop
structure DN where
  nx : Ds → Hl → Prop
  rt : QE
  bk : Ds → Hl → Prop := fun _ _ => False
  ct : Ds → Hl → Prop := fun _ _ => False
def setsD : List Nat → List D → Ds → Ds
  | i :: is, x :: xs, ds => setsD is xs (ds.set i (some x))
  | _, _, ds => ds
def setK (L : Hl) (o i v : D) (Q : Hl → Prop) : Prop :=
  match o with
  | .obj n => (match L[n]? with
    | some (.lst xs) => ∃ k j, i = .int k ∧ ixN xs.length k = some j ∧ Q (L.set n (.lst (xs.set j v)))
    | some (.dct t ks vs) => (keyOk t i = true ∧ ks.length < sizeLine) ∧ Q (L.set n (.dct t (dputK ks i) (dputV ks vs i v)))
    | _ => False)
  | _ => False
/-- a for's loop -/
def forR (s : Src) (t : D → DN → Ds → Hl → Prop) (N : DN) : List D → Ds → Hl → Prop
  | [], ds, L => s.ok L ∧ N.nx ds L
  | x :: xs, ds, L => s.ok L ∧ t x { nx := forR s t N xs, rt := N.rt, bk := N.nx, ct := forR s t N xs } ds L
/-- a while's: n more turns at most -/
def whileR (c : Ds → Hl → (Bool → Hl → Prop) → Prop) (t : DN → Ds → Hl → Prop) (N : DN) : Nat → Ds → Hl → Prop
  | 0, _, _ => False
  | n + 1, ds, L => c ds L fun b L1 => if b = true then t { nx := whileR c t N n, rt := N.rt, bk := N.nx, ct := whileR c t N n } ds L1 else N.nx ds L1
section
variable (Φ : Phi)
abbrev xh (E : XS) (ds : Ds) : XH := fun c L => E c ds L
mutual
def semS : IS → XS → DN → Ds → Hl → Prop
  | .pass, _, N, ds, L => N.nx ds L
  | .expr e, E, N, ds, L => semE Φ e (xh E ds) ds L fun _ L1 => N.nx ds L1
  | .asg g e, E, N, ds, L => semE Φ e (xh E ds) ds L fun d L1 => semG g d ds fun ds1 => N.nx ds1 L1
  | .par is es, E, N, ds, L => semEs Φ es (xh E ds) ds L fun xs L1 => xs.length = is.length ∧ N.nx (setsD is xs ds) L1
  | .seti o i e, E, N, ds, L => semE Φ e (xh E ds) ds L fun v L1 => semE Φ o (xh E ds) ds L1 fun x L2 => semE Φ i (xh E ds) ds L2 fun k L3 => setK L3 x k v fun L4 => N.nx ds L4
  | .aug i e, E, N, ds, L => ∃ d, ds[i]? = some (some d) ∧ semE Φ e (xh E ds) ds L fun y L1 => (match d, y with
    | .int a, .int b => N.nx (ds.set i (some (.int (a + b)))) L1
    | _, _ => False)
  | .ret e, E, N, ds, L => semE Φ e (xh E ds) ds L N.rt
  | .ret0, _, N, _, L => N.rt .non L
  | .ite c a b, E, N, ds, L => semE Φ c (xh E ds) ds L fun x L1 => truthK L1 x fun k => if k = true then semSs a E N ds L1 else semSs b E N ds L1
  | .for_ g it b, E, N, ds, L => semI Φ it (xh E ds) ds L fun s L1 => forR s (fun x M ds L => semG g x ds fun ds1 => semSs b E M ds1 L) N s.items ds L1
  | .while_ c b, E, N, ds, L => ∃ n, whileR (fun ds L k => semE Φ c (xh E ds) ds L fun x L1 => truthK L1 x fun b => k b L1) (fun M ds L => semSs b E M ds L) N n ds L
  | .brk, _, N, ds, L => N.bk ds L
  | .cont, _, N, ds, L => N.ct ds L
  | .raise c, E, _, ds, L => E c ds L
  | .try_ b c xs i j, E, N, ds, L => semSs b (fun x ds' L' => x ∈ xs ∧ if exSub x c = true then N.nx ((ds'.set j (some (.exc x))).set i none) L' else E x ds' L') N ds L
  | .tryr b c xs, E, N, ds, L => semSs b (fun x ds' L' => x ∈ xs ∧ if exSub x c = true then N.rt .non L' else E x ds' L') N ds L
def semSs : ISs → XS → DN → Ds → Hl → Prop
  | .nil, _, N, ds, L => N.nx ds L
  | .cons s r, E, N, ds, L => semS s E { N with nx := semSs r E N } ds L
end
end

/-! ### what a def leaves -/
/-- no number in it -/
def nonum : D → Bool
  | .obj _ => false
  | .tup xs => nonums xs
  | .lst xs => nonums xs
  | .scr xs => nonums xs
  | .dct _ ks vs => nonums ks && nonums vs
  | _ => true
where nonums : List D → Bool
  | [] => true
  | x :: xs => nonum x && nonums xs
def O.nonum : O → Bool
  | .dead => true
  | .lst xs => Nr.nonum.nonums xs
  | .dct _ ks vs => Nr.nonum.nonums ks && Nr.nonum.nonums vs
  | .ins _ _ => false
mutual
/-- new lists and dicts, by numbers from n on, seen as what nobody changes any more -/
inductive Frz (n : Nat) (L : Hl) : D → D → Prop
  | same {d : D} : nonum d = true → Frz n L d d
  | tup {xs ys : List D} : Frzs n L xs ys → Frz n L (.tup xs) (.tup ys)
  | lst {xs ys : List D} : Frzs n L xs ys → Frz n L (.lst xs) (.lst ys)
  | obj {j : Nat} {xs ys : List D} : n ≤ j → L[j]? = some (.lst xs) → Frzs n L xs ys → Frz n L (.obj j) (.lst ys)
  | objd {j : Nat} {t : Bool} {ks vs vs' : List D} : n ≤ j → L[j]? = some (.dct t ks vs) → nonum.nonums ks = true → Frzs n L vs vs' → Frz n L (.obj j) (.dct t ks vs')
inductive Frzs (n : Nat) (L : Hl) : List D → List D → Prop
  | nil : Frzs n L [] []
  | cons {x y : D} {xs ys : List D} : Frz n L x y → Frzs n L xs ys → Frzs n L (x :: xs) (y :: ys)
end
/-- what a def made and nobody sees is forgotten -/
inductive Trim (L L' : Hl) : D → D → Hl → Prop
  | same (d : D) : Trim L L' d d L'
  | cut {d : D} {Lq : Hl} : nonum d = true → L' = Lq ++ L'.drop L.length → Lq.length = L.length → (∀ (i : Nat) (o : O), Lq[i]? = some o → L[i]? = some o ∨ o.nonum = true) → Trim L L' d d Lq
  | froz {d d' : D} {Lq : Hl} : Frz L.length L' d d' → L' = Lq ++ L'.drop L.length → Lq.length = L.length → (∀ (i : Nat) (o : O), Lq[i]? = some o → L[i]? = some o ∨ o.nonum = true) → Trim L L' d d' Lq
  | fresh {j : Nat} {o : O} {Lq : Hl} : L.length ≤ j → L'[j]? = some o → o.nonum = true → L' = Lq ++ L'.drop L.length → Lq.length = L.length → (∀ (i : Nat) (o : O), Lq[i]? = some o → L[i]? = some o ∨ o.nonum = true) →
      Trim L L' (.obj j) (.obj L.length) (Lq ++ [o])
def Fin (L : Hl) (Q : QE) : QE := fun d L' => ∃ d' Lq, Trim L L' d d' Lq ∧ Q d' Lq
def FinX (L : Hl) (E : XH) : XS := fun c _ L' => ∃ Lq, Trim L L' .non .non Lq ∧ E c Lq
/-- a def's body keeps its contract -/
def startD (n : Nat) (args : List D) : Ds := args.map some ++ List.replicate (n - args.length) none
def bodyK (Φ : Phi) (n : Nat) (b : ISs) (args : List D) (L : Hl) (Q : QE) (E : XH) : Prop :=
  semSs Φ b (FinX L E) { nx := fun _ L' => Fin L Q .non L', rt := Fin L Q } (startD n args) L
end Nr

/-! The check: a piece of the small language is what stands in the text. -/
namespace Nr
open PySem PySem.Spec PyProof.Rows L2

/-- what is known of a place in the text -/
structure Gm where
  N : List Str
  sc : Scope
  fnok : Option Scope
  fns : List Str
  cst : List (Str × Int)
  kws : List (Str × Nat × List Str × List Nat)
  exs : List Str := []
  exi : List Str := []
def Gm.blk (Γ : Gm) (scope : Scope) : Gm := { Γ with sc := relS scope Γ.sc, fnok := some scope }
def isLoc : Option NameKind → Bool
  | some .local => true
  | some .cell => true
  | _ => false
def isVis : Option NameKind → Bool
  | some .local => true
  | some .cell => true
  | some .free => true
  | _ => false
def isGl : Option NameKind → Bool
  | some .globalImplicit => true
  | _ => false
def okName (x : Str) : Bool := !(x == ("__debug__" : Str)) && !(x == ("__classdict__" : Str)) && !(x == ("__name__" : Str))
def Gm.var (Γ : Gm) (i : Nat) (x : Str) : Bool := decide (Γ.N[i]? = some x) && isVis (Γ.sc.names.lookup x) && okName x
def Gm.fk (Γ : Gm) (x : Str) : Bool := match Γ.fnok with
  | none => true
  | some sc => isLoc (sc.names.lookup x)
def Gm.loc (Γ : Gm) (i : Nat) (x : Str) : Bool := decide (Γ.N[i]? = some x) && isLoc (Γ.sc.names.lookup x) && Γ.fk x
def Gm.gl (Γ : Gm) (x : Str) : Bool := isGl (Γ.sc.names.lookup x) && okName x
def opB : B2 → Operator → Bool
  | .add, .Add => true
  | .sub, .Sub => true
  | .mul, .Mult => true
  | .mod, .Mod => true
  | .fdiv, .FloorDiv => true
  | .pow, .Pow => true
  | _, _ => false
def opC : C2 → CmpOp → Bool
  | .eq, .Eq => true
  | .ne, .NotEq => true
  | .lt, .Lt => true
  | .le, .LtE => true
  | .gt, .Gt => true
  | .ge, .GtE => true
  | .is, .Is => true
  | .isnot, .IsNot => true
  | .isin, .In => true
  | .notin, .NotIn => true
  | _, _ => false
def biName : Bi → String
  | .len => "len" | .abs => "abs" | .min => "min" | .max => "max" | .sum => "sum" | .tuple => "tuple" | .int => "int" | .all => "all" | .any => "any" | .min1 => "min" | .max1 => "max"
def mtName : Mt → String
  | .append => "append" | .pop => "pop" | .extend => "extend" | .insert => "insert" | .index => "index"
/-- the type's name in isinstance -/
def chkTy (Γ : Gm) : Ty → Expr → Bool
  | .int, .Name x _ => Γ.gl x && decide (x = "int")
  | .bool, .Name x _ => Γ.gl x && decide (x = "bool")
  | .str, .Name x _ => Γ.gl x && decide (x = "str")
  | .tuple, .Name x _ => Γ.gl x && decide (x = "tuple")
  | .list, .Name x _ => Γ.gl x && decide (x = "list")
  | .dict, .Name x _ => Γ.gl x && decide (x = "dict")
  | .cls c xs, .Name x _ => Γ.gl x && decide (x = c) && decide (xs = Γ.exi) && (Γ.exi.contains c || decide (c = "ValueError"))
  | .seq, .Tuple [.Name x _, .Name y _] _ _ => (Γ.gl x && decide (x = "list")) && (Γ.gl y && decide (y = "tuple"))
  | _, _ => false
def isSlice : Expr → Bool
  | .Slice _ _ _ _ => true
  | _ => false
/-- a walk of pairs stores a pair -/
def tgOk : II → Expr → Bool
  | .zip _ _, .Tuple _ _ _ => true
  | .zip _ _, _ => false
  | .enum _, .Tuple _ _ _ => true
  | .enum _, _ => false
  | _, _ => true
/-- a method's receiver is of a plain form -/
def methBase : Expr → Bool
  | .Name _ _ => true
  | .Subscript _ _ _ => true
  | _ => false
mutual
/-- the slots that a target stores -/
def IG.slots : IG → List Nat
  | .n i => [i]
  | .t gs => gs.slots
def IGs.slots : IGs → List Nat
  | .nil => []
  | .cons g gs => g.slots ++ gs.slots
end
mutual
def chkG (Γ : Gm) : IG → Expr → Bool
  | .n i, .Name x _ => Γ.loc i x
  | .t gs, .Tuple es _ _ => chkGs Γ gs es
  | _, _ => false
def chkGs (Γ : Gm) : IGs → List Expr → Bool
  | .nil, [] => true
  | .cons g gs, e :: es => chkG Γ g e && chkGs Γ gs es
  | _, _ => false
end
mutual
def chkE (Γ : Gm) : IE → Expr → Bool
  | .var i, z => (match z with
    | .Name x _ => Γ.var i x
    | _ => false)
  | .give i, z => (match z with
    | .Name x _ => Γ.var i x
    | _ => false)
  | .int i, z => (match z with
    | .Constant (.int j) _ _ => decide (i = j)
    | _ => false)
  | .str s, z => (match z with
    | .Constant (.str x) _ _ => decide (s = x) && PyData.strOk x
    | _ => false)
  | .bl b, z => (match z with
    | .Constant (.bool c) _ _ => b == c
    | _ => false)
  | .non, z => (match z with
    | .Constant .none _ _ => true
    | _ => false)
  | .gint x i, z => (match z with
    | .Name y _ => Γ.gl y && decide (x = y) && decide (Γ.cst.lookup y = some i)
    | _ => false)
  | .tup es, z => (match z with
    | .Tuple es' _ _ => chkEs Γ es es'
    | _ => false)
  | .frz f, e => chkF Γ f e
  | .newl f, e => chkF Γ f e
  | .frzd f, e => chkD Γ f e
  | .newd f, e => chkD Γ f e
  | .bin o a b, z => (match z with
    | .BinOp a' op b' _ => opB o op && chkE Γ a a' && chkE Γ b b'
    | _ => false)
  | .cmp o a b, z => (match z with
    | .Compare a' [op] [b'] _ => opC o op && chkE Γ a a' && chkE Γ b b' && !behindInMarks op b'
    | _ => false)
  | .chain o o' a b c, z => (match z with
    | .Compare a' [op, op'] [b', c'] _ => opC o op && opC o' op' && chkE Γ a a' && chkE Γ b b' && chkE Γ c c' && !behindInMarks op b' && !behindInMarks op' c'
    | _ => false)
  | .neg a, z => (match z with
    | .UnaryOp .USub a' _ => chkE Γ a a'
    | _ => false)
  | .not a, z => (match z with
    | .UnaryOp .Not a' _ => chkE Γ a a'
    | _ => false)
  | .and es, z => (match z with
    | .BoolOp .And es' _ => chkEs Γ es es'
    | _ => false)
  | .or es, z => (match z with
    | .BoolOp .Or es' _ => chkEs Γ es es'
    | _ => false)
  | .ite c a b, z => (match z with
    | .IfExp c' a' b' _ => chkE Γ c c' && chkE Γ a a' && chkE Γ b b'
    | _ => false)
  | .idx a b, z => (match z with
    | .Subscript a' b' _ => chkE Γ a a' && chkE Γ b b' && !isSlice b'
    | _ => false)
  | .slc a lo hi, z => (match z with
    | .Subscript a' (.Slice lo' hi' none _) _ => chkE Γ a a' && (match lo' with
      | none => isOmit lo
      | some e => chkE Γ lo e) && (match hi' with
      | none => isOmit hi
      | some e => chkE Γ hi e)
    | _ => false)
  | .call f es, z => (match z with
    | .Call (.Name x _) es' [] _ => Γ.gl x && decide (f = x) && Γ.fns.contains f && chkEs Γ es es'
    | _ => false)
  | .callk f es ks perm, z => (match z with
    | .Call (.Name x _) es' kws _ => Γ.gl x && decide (f = x) && Γ.fns.contains f && chkEs Γ es es' && chkKs Γ ks kws && kws.all (fun k => k.arg.isSome) && decide (es.len = es'.length) && decide (ks.len = kws.length) && decide ((f, es'.length, kws.filterMap (fun k => k.arg), perm) ∈ Γ.kws)
    | _ => false)
  | .bi b es, z => (match z with
    | .Call (.Name x _) es' [] _ => Γ.gl x && decide (x = Str.ofString (biName b)) && !es'.isEmpty && chkEs Γ es es'
    | _ => false)
  | .omit, _ => false
  | .tupr r, z => (match z with
    | .Call (.Name x _) [.Call (.Name y _) es [] _] [] _ => Γ.gl x && decide (x = "tuple") && Γ.gl y && decide (y = "range") && chkR Γ r es
    | _ => false)
  | .isi a t, z => (match z with
    | .Call (.Name x _) [a', t'] [] _ => Γ.gl x && decide (x = "isinstance") && chkE Γ a a' && chkTy Γ t t'
    | _ => false)
  | .meth m a es, z => (match z with
    | .Call (.Attribute a' x ap) es' [] cp => decide (x = Str.ofString (mtName m)) && (methBase a' && (ap.endLine == cp.line) && decide (es'.length < 20) && (!es'.isEmpty || decide (m = .pop))) && chkE Γ a a' && chkEs Γ es es'
    | _ => false)
  | .dget a k d, z => (match z with
    | .Call (.Attribute a' x ap) [k', d'] [] cp => decide (x = "get") && (methBase a' && (ap.endLine == cp.line)) && chkE Γ a a' && chkE Γ k k' && chkE Γ d d'
    | _ => false)
/-- the ends of a range: from 0, or both -/
def chkR (Γ : Gm) : IR → List Expr → Bool
  | .one b, z => (match z with
    | [b'] => chkE Γ b b'
    | _ => false)
  | .two a b, z => (match z with
    | [a', b'] => chkE Γ a a' && chkE Γ b b'
    | _ => false)
def chkEs (Γ : Gm) : IEs → List Expr → Bool
  | .nil, z => (match z with
    | [] => true
    | _ => false)
  | .cons e es, z => (match z with
    | e' :: es' => chkE Γ e e' && chkEs Γ es es'
    | _ => false)
def chkKs (Γ : Gm) : IEs → List Keyword → Bool
  | .nil, z => (match z with
    | [] => true
    | _ => false)
  | .cons e es, z => (match z with
    | ⟨_, e', _⟩ :: es' => chkE Γ e e' && chkKs Γ es es'
    | _ => false)
def chkF (Γ : Gm) : IF → Expr → Bool
  | .disp es, z => (match z with
    | .List es' _ => chkEs Γ es es'
    | _ => false)
  | .of e, z => (match z with
    | .Call (.Name x _) [e'] [] _ => Γ.gl x && decide (x = "list") && chkE Γ e e'
    | _ => false)
  | .rng r, z => (match z with
    | .Call (.Name x _) [.Call (.Name y _) es [] _] [] _ => Γ.gl x && decide (x = "list") && Γ.gl y && decide (y = "range") && chkR Γ r es
    | _ => false)
  | .sorted e, z => (match z with
    | .Call (.Name x _) [e'] [] _ => Γ.gl x && decide (x = "sorted") && chkE Γ e e'
    | _ => false)
  | .cat a b, z => (match z with
    | .BinOp a' .Add b' _ => chkE Γ a a' && chkE Γ b b'
    | _ => false)
  | .rep a b, z => (match z with
    | .BinOp a' .Mult b' _ => chkE Γ a a' && chkE Γ b b'
    | _ => false)
  | .lc own e g it ifs, z => (match z with
    | .ListComp e' [⟨tg, it', ifs', 0⟩] scope _ => blkC Γ.N Γ.sc scope (own.map fun i => (Γ.N.getD i Str.empty, i)) && (chkI Γ it it' && tgOk it tg) && (chkG (Γ.blk scope) g tg && g.slots.all own.contains) && chkIf (Γ.blk scope) ifs ifs' && chkE (Γ.blk scope) e e'
    | _ => false)
  | .lc2 own own1 e g it ifs g1 it1 ifs1, z => (match z with
    | .ListComp e' [⟨tg, it', ifs', 0⟩, ⟨tg1, it1', ifs1', 0⟩] scope _ => blkC Γ.N Γ.sc scope (own.map fun i => (Γ.N.getD i Str.empty, i)) && own1.all own.contains && (chkI Γ it it' && tgOk it tg) && (chkG (Γ.blk scope) g tg && g.slots.all own.contains) && chkIf (Γ.blk scope) ifs ifs' && (chkI (Γ.blk scope) it1 it1' && tgOk it1 tg1) && (chkG (Γ.blk scope) g1 tg1 && g1.slots.all own1.contains) && chkIf (Γ.blk scope) ifs1 ifs1' && chkE (Γ.blk scope) e e'
    | _ => false)
def chkIf (Γ : Gm) : IEs → List Expr → Bool
  | .nil, z => (match z with
    | [] => true
    | _ => false)
  | .cons e .nil, z => (match z with
    | [e'] => chkE Γ e e'
    | _ => false)
  | .cons _ (.cons _ _), _ => false
def chkD (Γ : Gm) : ID → Expr → Bool
  | .nil t, z => (match z with
    | .Dict [] [] _ => true
    | _ => false)
  | .dc t own k v g it ifs, z => (match z with
    | .DictComp k' v' [⟨tg, it', ifs', 0⟩] scope _ => blkC Γ.N Γ.sc scope (own.map fun i => (Γ.N.getD i Str.empty, i)) && (chkI Γ it it' && tgOk it tg) && (chkG (Γ.blk scope) g tg && g.slots.all own.contains) && chkIf (Γ.blk scope) ifs ifs' && chkE (Γ.blk scope) k k' && chkE (Γ.blk scope) v v'
    | _ => false)
  | .one _ k v, z => (match z with
    | .Dict [some k'] [v'] _ => chkE Γ k k' && chkE Γ v v'
    | _ => false)
  | .of _, _ => false
def chkI (Γ : Gm) : II → Expr → Bool
  | .rng r, z => (match z with
    | .Call (.Name x _) es [] _ => Γ.gl x && decide (x = "range") && chkR Γ r es
    | _ => false)
  | .enum a, z => (match z with
    | .Call (.Name x _) [a'] [] _ => Γ.gl x && decide (x = "enumerate") && chkE Γ a a'
    | _ => false)
  | .zip a b, z => (match z with
    | .Call (.Name x _) [a', b'] [] _ => Γ.gl x && decide (x = "zip") && chkE Γ a a' && chkE Γ b b'
    | _ => false)
  | .seq e, e' => chkE Γ e e'
end
/-- a part of a slice -/
def chkO (Γ : Gm) (ir : IE) (o : Option Expr) : Bool := match o with
  | none => isOmit ir
  | some e => chkE Γ ir e
theorem chkE_int {Γ : Gm} {p : Pos} : chkE Γ (.int 1) (.Constant (.int 1) 0 p) = true := rfl
end Nr

/-! The small language does what the text does: expressions. -/
namespace Nr
open PySem PySem.Spec PyProof.Rows L2

abbrev wd (X : Cx) : Wd := ⟨X.prog, X.w, X.K, X.mg⟩
def clsIs (W : Wd) (c : Str) (cls : Value) : Prop := ∃ C, W.mg c = some (.ref C) ∧ cls = .ref C
/-- what is wanted of an exception -/
def lW (W : Wd) (B : Option En) (E : XS) : WX := fun cls d σ H => ∃ (c : Str) (m : Nb) (L : Hl) (ds : Ds), clsIs W c cls ∧ d = none ∧ Sit W B m L ds σ H ∧ E c ds L
/-- a contract over data as the hand layer's -/
def lSp (W : Wd) (φ : List D → Hl → QE → XH → Prop) : Sp := fun vs H Q Ex => ∃ (m : Nb) (L : Hl) (xs : List D) (Qd : QE) (Ed : XH), RepL W m L H ∧ RepVs W m L H vs xs ∧ φ xs L Qd Ed ∧
  (∀ d L' v m' H', Qd d L' → Step m L H m' L' H' → RepL W m' L' H' → RepV W m' L' H' v d → Q v H') ∧
  (∀ c L' cls m' H', Ed c L' → clsIs W c cls → Step m L H m' L' H' → RepL W m' L' H' → Ex cls none H')
def bltNames : List Str := ["len", "abs", "min", "max", "sum", "sorted", "list", "tuple", "int", "all", "any", "range", "enumerate", "zip", "isinstance", "bool", "str", "dict", "set", "ValueError"]

/-- a def that may be called at level k -/
structure Fn (W : Wd) (base : Heap) (k : Nat) (φ : List D → Hl → QE → XH → Prop) (f : Str) (kws : List (Str × Nat × List Str × List Nat)) : Prop where
  ok : ∃ (fa : Addr) (fd : FuncData) (ps : List Str), W.mg f = some (.ref fa) ∧ PySem.W.keepIn W.K (.ref fa) = true ∧ FnOk W.P W.w W.K W.mg base (L2.CX W.P W.w) k fa fd ps (lSp W φ) ∧
    (∀ (s : Shared) (us : List Value), W.K.In s.heap → us.length = ps.length → BindsTo s fd ⟨us, []⟩ (ps.zip us)) ∧
    ∀ n ks perm, (f, n, ks, perm) ∈ kws → perm.length = ps.length ∧ (∀ i ∈ perm, i < n + ks.length) ∧ ∀ (s : Shared) (us ws : List Value), W.K.In s.heap → us.length = n → ws.length = ks.length → BindsTo s fd ⟨us, ks.zip ws⟩ (ps.zip (perm.filterMap fun i => (us ++ ws)[i]?))

/-- what is known of the classes of errors -/
structure ExF (K : PySem.W.Frag) (mg : Str → Option Value) (exi : List Str) : Prop where
  cls : ∀ x ∈ exi, ∃ C, mg x = some (.ref C) ∧ ExcC K C ∧ PySem.W.kitOne K (.ref C) (.type "ValueError") = some true
  rel : ∀ x ∈ exi, ∀ y ∈ exi, ∀ C D, mg x = some (.ref C) → mg y = some (.ref D) → PySem.W.exmOne K (.ref C) (.ref D) = some (exSub x y) ∧ PySem.W.kitOne K (.ref C) (.ref D) = some (exSub x y)
structure Good (Φ : Phi) (B : Option En) (E : XS) (k : Nat) (Γ : Gm) (X : Cx) : Prop where
  N : X.N = Γ.N
  nd : Γ.N.Nodup
  sc : X.env.scope = Γ.sc
  fn : ∀ x, Γ.fk x = true → isLoc (Γ.sc.names.lookup x) = true → X.fn x = true ∨ X.env.scope.names.lookup x = some .local
  calm : X.calm = true
  room : Room k X.A
  tk : Takes X (lW (wd X) B E)
  cst : ∀ x i, Γ.cst.lookup x = some i → ∃ t, X.mg x = some (.int i t)
  blt : ∀ x ∈ bltNames, X.mg x = none
  fns : ∀ f ∈ Γ.fns, ∃ fa, X.mg f = some (.ref fa) ∧ PySem.W.keepIn X.K (.ref fa) = true
  call : ∀ f xs L Q Ex, Φ f xs L Q Ex → Fn (wd X) X.base k (Φ f) f Γ.kws
  exi : ExF X.K X.mg Γ.exi

section
variable {Φ : Phi} {B : Option En} {E : XS} {k : Nat} {Γ : Gm} {X : Cx}
theorem isVis_of {o : Option NameKind} (h : isVis o = true) : o = some .local ∨ o = some .cell ∨ o = some .free := by
  unfold isVis at h
  split at h <;> first | exact .inl rfl | exact .inr (.inl rfl) | exact .inr (.inr rfl) | cases h
theorem isLoc_of {o : Option NameKind} (h : isLoc o = true) : o = some .local ∨ o = some .cell := by
  unfold isLoc at h
  split at h <;> first | exact .inl rfl | exact .inr rfl | cases h
theorem isGl_of {o : Option NameKind} (h : isGl o = true) : o = some .globalImplicit := by
  unfold isGl at h
  split at h <;> first | rfl | cases h
theorem okName_of {x : Str} (h : okName x = true) : (x == ("__debug__" : Str)) = false ∧ (x == ("__classdict__" : Str)) = false ∧ x ≠ "__name__" := by
  unfold okName at h
  simp only [Bool.and_eq_true, Bool.not_eq_true'] at h
  exact ⟨h.1.1, h.1.2, fun e => by simp [e] at h⟩
theorem b2 {a b : Bool} (h : (a && b) = true) : a = true ∧ b = true := Bool.and_eq_true_iff.mp h
theorem Good.var (G : Good Φ B E k Γ X) {i : Nat} {x : Str} {pos : Pos} (h : Γ.var i x = true) : PE X (.Name x pos) (tVar i) := by
  obtain ⟨h1, h3⟩ := b2 h
  obtain ⟨h1, h2⟩ := b2 h1
  obtain ⟨d1, d2, _⟩ := okName_of h3
  refine pe_var (by rw [G.N]; exact of_decide_eq_true h1) ?_ d1 d2
  unfold Vis
  rw [G.sc]
  exact isVis_of h2
theorem Good.gl (G : Good Φ B E k Γ X) {x : Str} (h : Γ.gl x = true) : Gl X x ∧ (x == ("__debug__" : Str)) = false ∧ x ≠ "__name__" := by
  obtain ⟨h1, h2⟩ := b2 h
  obtain ⟨d1, _, d3⟩ := okName_of h2
  refine ⟨?_, d1, d3⟩
  unfold Gl Env.kindOf
  rw [G.sc]
  exact isGl_of h1
theorem Good.units (G : Good Φ B E k Γ X) : X.A.units + 200 < cLine := by
  have := G.room.un
  omega

/-- not a star, no comprehension: what the machine asks of an expression's form -/
def starE : Expr → Bool
  | .Starred _ _ => true
  | .Set _ _ _ => true
  | _ => false
theorem star_of {e : Expr} {es : List Expr} {env : Env} (h : starE e = false) : starEach (e :: es) env = (false, eval e env) :: starEach es env := by
  cases e <;> first | rfl | cases h
theorem fold_of {e : Expr} {env : Env} {x : Value} (h : starE e = false) : foldedSetIterable e env x = pure x := by
  cases e <;> first | rfl | cases h
mutual
theorem chkE_star : ∀ (ir : IE) (e : Expr), chkE Γ ir e = true → starE e = false
  | .frz f, e, h => chkF_star f e (by unfold chkE at h; exact h)
  | .newl f, e, h => chkF_star f e (by unfold chkE at h; exact h)
  | .frzd f, e, h => by
    unfold chkE at h
    cases f with
    | nil t => unfold chkD at h; split at h <;> first | rfl | cases h
    | dc _ _ _ _ _ _ _ => unfold chkD at h; split at h <;> first | rfl | cases h
    | one _ _ _ => unfold chkD at h; split at h <;> first | rfl | cases h
    | of _ => unfold chkD at h; cases h
  | .newd f, e, h => by
    unfold chkE at h
    cases f with
    | nil t => unfold chkD at h; split at h <;> first | rfl | cases h
    | dc _ _ _ _ _ _ _ => unfold chkD at h; split at h <;> first | rfl | cases h
    | one _ _ _ => unfold chkD at h; split at h <;> first | rfl | cases h
    | of _ => unfold chkD at h; cases h
  | .var _, e, h => by unfold chkE at h; split at h <;> first | rfl | cases h
  | .give _, e, h => by unfold chkE at h; split at h <;> first | rfl | cases h
  | .int _, e, h => by unfold chkE at h; split at h <;> first | rfl | cases h
  | .str _, e, h => by unfold chkE at h; split at h <;> first | rfl | cases h
  | .bl _, e, h => by unfold chkE at h; split at h <;> first | rfl | cases h
  | .non, e, h => by unfold chkE at h; split at h <;> first | rfl | cases h
  | .gint _ _, e, h => by unfold chkE at h; split at h <;> first | rfl | cases h
  | .omit, e, h => by unfold chkE at h; cases h
  | .tup _, e, h => by unfold chkE at h; split at h <;> first | rfl | cases h
  | .bin _ _ _, e, h => by unfold chkE at h; split at h <;> first | rfl | cases h
  | .cmp _ _ _, e, h => by unfold chkE at h; split at h <;> first | rfl | cases h
  | .chain _ _ _ _ _, e, h => by unfold chkE at h; split at h <;> first | rfl | cases h
  | .neg _, e, h => by unfold chkE at h; split at h <;> first | rfl | cases h
  | .not _, e, h => by unfold chkE at h; split at h <;> first | rfl | cases h
  | .and _, e, h => by unfold chkE at h; split at h <;> first | rfl | cases h
  | .or _, e, h => by unfold chkE at h; split at h <;> first | rfl | cases h
  | .ite _ _ _, e, h => by unfold chkE at h; split at h <;> first | rfl | cases h
  | .idx _ _, e, h => by unfold chkE at h; split at h <;> first | rfl | cases h
  | .slc _ _ _, e, h => by unfold chkE at h; split at h <;> first | rfl | cases h
  | .call _ _, e, h => by unfold chkE at h; split at h <;> first | rfl | cases h
  | .callk _ _ _ _, e, h => by unfold chkE at h; split at h <;> first | rfl | cases h
  | .bi _ _, e, h => by unfold chkE at h; split at h <;> first | rfl | cases h
  | .tupr _, e, h => by unfold chkE at h; split at h <;> first | rfl | cases h
  | .isi _ _, e, h => by unfold chkE at h; split at h <;> first | rfl | cases h
  | .meth _ _ _, e, h => by unfold chkE at h; split at h <;> first | rfl | cases h
  | .dget _ _ _, e, h => by unfold chkE at h; split at h <;> first | rfl | cases h
theorem chkF_star : ∀ (f : IF) (e : Expr), chkF Γ f e = true → starE e = false
  | .disp _, e, h => by unfold chkF at h; split at h <;> first | rfl | cases h
  | .of _, e, h => by unfold chkF at h; split at h <;> first | rfl | cases h
  | .rng _, e, h => by unfold chkF at h; split at h <;> first | rfl | cases h
  | .sorted _, e, h => by unfold chkF at h; split at h <;> first | rfl | cases h
  | .cat _ _, e, h => by unfold chkF at h; split at h <;> first | rfl | cases h
  | .rep _ _, e, h => by unfold chkF at h; split at h <;> first | rfl | cases h
  | .lc _ _ _ _ _, e, h => by unfold chkF at h; split at h <;> first | rfl | cases h
  | .lc2 _ _ _ _ _ _ _ _ _, e, h => by unfold chkF at h; split at h <;> first | rfl | cases h
end

/-! ### new lists -/
abbrev TDl := Ds → Hl → (List D → Hl → Prop) → Prop
/-- a new list stands at p, nothing else does -/
structure NewAt (W : Wd) (m : Nb) (L : Hl) (H : Hp) (m' : Nb) (L' : Hl) (H' : Hp) (p : Addr) (xs : List D) : Prop where
  r0 : RepL W m L H
  st : Step m L H m' L' H'
  rl : RepL W m' L' H'
  fr : H p = none
  nm : ApN m' L' p
  nr : p ∈ m'.r
  at_ : ∃ vs, H' p = some (.lst vs) ∧ RepVs W m' L' H' vs xs
def lF (W : Wd) (B : Option En) (t : TDl) : TE := fun σ H Q => ∃ (m : Nb) (L : Hl) (ds : Ds) (Qd : List D → Hl → Prop), Sit W B m L ds σ H ∧ t ds L Qd ∧
  ∀ xs L' m' H' p, Qd xs L' → NewAt W m L H m' L' H' p xs → Q (.ref p) H'
abbrev DF (X : Cx) (W : Wd) (B : Option En) (e : Expr) (t : TDl) : Prop := PE X e (lF W B t)
variable {W : Wd} {e : Expr} {es : List Expr} {pos : Pos}
theorem NewAt.frz {m m' : Nb} {L L' : Hl} {H H' : Hp} {p : Addr} {xs : List D} (n : NewAt W m L H m' L' H' p xs) : Step m L H (m'.unr p) L' H' ∧ RepL W (m'.unr p) L' H' ∧ RepV W (m'.unr p) L' H' (.ref p) (.lst xs) := by
  obtain ⟨vs, h1, h2⟩ := n.at_
  exact ⟨Step.unr n.r0 n.st n.fr, n.rl.unr, .lst h1 h2.unr ⟨n.nm, fun z => (mem_unr.mp z).2 rfl⟩⟩
theorem NewAt.num {m m' : Nb} {L L' : Hl} {H H' : Hp} {p : Addr} {xs : List D} (n : NewAt W m L H m' L' H' p xs) :
    Step m L H (nwId (m'.unr p) L'.length p) (L' ++ [.lst xs]) H' ∧ RepL W (nwId (m'.unr p) L'.length p) (L' ++ [.lst xs]) H' ∧ RepV W (nwId (m'.unr p) L'.length p) (L' ++ [.lst xs]) H' (.ref p) (.obj L'.length) := by
  obtain ⟨vs, h1, h2⟩ := n.at_
  have st := Step.unr n.r0 n.st n.fr
  have r : RepL W (nwId (m'.unr p) L'.length p) (L' ++ [.lst xs]) H' := n.rl.num n.nm n.nr ⟨vs, h1, h2.num n.nm n.nr⟩
  refine ⟨⟨Nat.le_trans st.len (by simp), fun i hi => ?_, st.rs, fun i hi ai => ?_, st.keep, st.there, fun i hi ai => ?_⟩, r, ?_⟩
  · rw [nwId_ne (Nat.ne_of_lt (Nat.lt_of_lt_of_le hi st.len))]
    exact st.ids i hi
  · rcases alive_push ai with ⟨_, ai⟩ | h
    · exact st.live i hi ai
    · exact absurd (h ▸ hi) (Nat.not_lt.mpr st.len)
  · rcases alive_push ai with ⟨hj, ai⟩ | h
    · rw [nwId_ne (Nat.ne_of_lt hj)]
      exact st.new i hi ai
    · rw [h, nwId_same]
      exact n.fr
  · have := RepV.obj (W := W) (m := nwId (m'.unr p) L'.length p) (L := L' ++ [.lst xs]) (H := H') (i := L'.length) (by simp)
    rw [nwId_same] at this
    exact this
theorem e_frz {t : TDl} (h : DF X W B e t) : DE X W B e (fun ds L Q => t ds L fun xs L1 => Q (.lst xs) L1) := peI h fun σ H Q ⟨m, L, ds, Qd, S, q, c⟩ =>
  ⟨m, L, ds, _, S, q, fun xs L' m' H' p q' n => c _ L' _ _ H' q' n.frz.1 n.frz.2.1 n.frz.2.2⟩
theorem e_newl {t : TDl} (h : DF X W B e t) : DE X W B e (fun ds L Q => t ds L fun xs L1 => Q (.obj L1.length) (L1 ++ [.lst xs])) := peI h fun σ H Q ⟨m, L, ds, Qd, S, q, c⟩ =>
  ⟨m, L, ds, _, S, q, fun xs L' m' H' p q' n => c _ _ _ _ H' q' n.num.1 n.num.2.1 n.num.2.2⟩
/-- made at once, of values that stand -/
theorem newAt_upd {m m' : Nb} {L L' : Hl} {H H' : Hp} {p : Addr} {vs : List V} {xs : List D} (r0 : RepL W m L H) (st : Step m L H m' L' H') (rl : RepL W m' L' H') (hp : H' p = none) (r : RepVs W m' L' H' vs xs) : NewAt W m L H (m'.res p) L' (upd H' p (.lst vs)) p xs :=
  ⟨r0, st.trans (Step.resv hp), rl.resv hp, st.there p hp, (rl.free hp).1, List.mem_cons_self, vs, upd_same, r.resv hp⟩
theorem f_disp {t : TDs} (h : DA X W B es t) : DF X W B (.List es pos) (fun ds L Q => t ds L fun xs L1 => xs.length ≤ sizeLine ∧ Q xs L1) := peI (pe_lst h) fun σ H Q ⟨m, L, ds, Qd, S, q, c⟩ =>
  ⟨m, L, ds, _, S, q, fun xs L' vs m' H' q' st rl rv => ⟨by rw [rv.length]; exact q'.1, fun p hp => c xs L' _ _ p q'.2 (newAt_upd S.rl st rl hp rv)⟩⟩
theorem e_tup {t : TDs} {j : Nat} (h : DA X W B es t) : DE X W B (.Tuple es j pos) (fun ds L Q => t ds L fun xs L1 => xs.length ≤ sizeLine ∧ Q (.tup xs) L1) := peI (pe_tup h) fun σ H Q ⟨m, L, ds, Qd, S, q, c⟩ =>
  ⟨m, L, ds, _, S, q, fun xs L' vs m' H' q' st rl rv => ⟨by rw [rv.length]; exact q'.1, fun p hp => c _ L' _ m' _ q'.2 (st.trans (Step.laid hp)) (rl.laid hp) (rep_tup rl hp rv)⟩⟩
theorem a_nil : DA X W B [] (fun _ L Q => Q [] L) := paI pa_nil fun σ H Q ⟨m, L, ds, Qd, S, q, c⟩ => c [] L [] m H q Step.refl S.rl .nil
theorem a_cons {t : TD} {u : TDs} (hs : starE e = false) (h : DE X W B e t) (hr : DA X W B es u) : DA X W B (e :: es) (fun ds L Q => t ds L fun x L1 => u ds L1 fun xs L2 => Q (x :: xs) L2) :=
  paI (pa_cons h hr (star_of hs)) fun σ H Q ⟨m, L, ds, Qd, S, q, c⟩ =>
    ⟨m, L, ds, _, S, q, fun x L1 v m1 H1 q1 st1 rl1 rv => ⟨m1, L1, ds, _, S.nx st1 rl1, q1, fun xs L2 vs m2 H2 q2 st2 rl2 rvs => c _ L2 _ m2 H2 q2 (st1.trans st2) rl2 (.cons (rv.step st2) rvs)⟩⟩

/-! ### truth -/
theorem truth_of {m : Nb} {L : Hl} {H : Hp} {v : V} {d : D} {b : Bool} (rl : RepL W m L H) (r : RepV W m L H v d) (h : truthV L d = some b) : TruV W.K v H b := by
  unfold truthV at h
  split at h
  · rename_i e
    cases h
    rw [res_non r e]
    rfl
  · rename_i b e
    cases h
    rw [res_bl r e]
    rfl
  · rename_i i e
    cases h
    rw [res_int r e]
    rfl
  · rename_i xs e
    cases h
    obtain ⟨rfl, p, vs, rfl, h1, h2⟩ := res_tup r e
    refine .inr (.inl ⟨vs, h1, ?_⟩)
    cases h2 <;> rfl
  · rename_i xs e
    cases h
    obtain ⟨p, vs, rfl, h1, h2⟩ := res_lst rl r e
    refine .inl ⟨vs, SqL.of h1, ?_⟩
    cases h2 <;> rfl
  · rename_i xs e
    cases h
    obtain ⟨p, vs, rfl, h1, h2, _⟩ := res_scr r e
    refine .inl ⟨vs, h1, ?_⟩
    cases h2 <;> rfl
  · cases h
/-- a test: a value, by its truth -/
def lT (W : Wd) (B : Option En) (t : TD) : TT := fun σ H Q => ∃ (m : Nb) (L : Hl) (ds : Ds) (Qd : QE), Sit W B m L ds σ H ∧ t ds L Qd ∧
  ∀ d L' m' H', Qd d L' → Step m L H m' L' H' → RepL W m' L' H' → ∃ b, truthV L' d = some b ∧ Q b H'
abbrev DT (X : Cx) (W : Wd) (B : Option En) (e : Expr) (t : TD) : Prop := PT X e (lT W B t)
abbrev DW (X : Cx) (W : Wd) (B : Option En) (e : Expr) (t : TD) : Prop := PW X e (lT W B t)
theorem t_truth {t : TD} (h : DE X (wd X) B e t) (he : ∀ whole, isTrue e X.env whole = (do let v ← whole; standAt e.pos; holding [v] (truthy v))) : DT X (wd X) B e t :=
  ptI (pt_truth h he) fun σ H Q ⟨m, L, ds, Qd, S, q, c⟩ => ⟨m, L, ds, _, S, q, fun d L' v m' H' q' st rl r => by
    obtain ⟨b, h1, h2⟩ := c d L' m' H' q' st rl
    exact ⟨b, truth_of rl r h1, h2⟩⟩
def dNot (t : TD) : TD := fun ds L Q => t ds L fun x L1 => truthK L1 x fun b => Q (.bl (!b)) L1
def dAnd (t u : TD) : TD := fun ds L Q => t ds L fun x L1 => truthK L1 x fun k => if k = true then u ds L1 Q else Q x L1
def dOr (t u : TD) : TD := fun ds L Q => t ds L fun x L1 => truthK L1 x fun k => if k = true then Q x L1 else u ds L1 Q
def dIte (t ta tb : TD) : TD := fun ds L Q => t ds L fun x L1 => truthK L1 x fun k => if k = true then ta ds L1 Q else tb ds L1 Q
theorem t_not {a : Expr} {t : TD} (h : DT X W B a t) : DT X W B (.UnaryOp .Not a pos) (dNot t) :=
  ptI (pt_not h) fun σ H Q ⟨m, L, ds, Qd, S, q, c⟩ => ⟨m, L, ds, _, S, q, fun d L' m' H' ⟨b, e, q'⟩ st rl => by
    obtain ⟨b', e', h⟩ := c _ L' m' H' q' st rl
    cases e'
    exact ⟨b, e, h⟩⟩
theorem e_not {a : Expr} {t : TD} (h : DE X (wd X) B a t) : DE X (wd X) B (.UnaryOp .Not a pos) (dNot t) :=
  peI (pe_notT h) fun σ H Q ⟨m, L, ds, Qd, S, q, c⟩ => ⟨m, L, ds, _, S, q, fun d L' v m' H' ⟨b, e, q'⟩ st rl r => ⟨b, truth_of rl r e, c _ L' _ m' H' q' st rl (.bl _)⟩⟩
theorem e_and {a b : Expr} {rest : List Expr} {t u : TD} (ha : DE X (wd X) B a t) (hb : DE X (wd X) B (.BoolOp .And (b :: rest) pos) u) : DE X (wd X) B (.BoolOp .And (a :: b :: rest) pos) (dAnd t u) :=
  peI (pe_andT ha hb) fun σ H Q ⟨m, L, ds, Qd, S, q, c⟩ => ⟨m, L, ds, _, S, q, fun d L' v m' H' ⟨k, e, q'⟩ st rl r => by
    refine ⟨k, truth_of rl r e, ?_⟩
    cases k with
    | true => exact ⟨m', L', ds, Qd, S.nx st rl, q', fun d L2 v m2 H2 q2 st2 rl2 r2 => c d L2 v m2 H2 q2 (st.trans st2) rl2 r2⟩
    | false => exact c _ L' _ m' H' q' st rl r⟩
theorem e_or {a b : Expr} {rest : List Expr} {t u : TD} (ha : DE X (wd X) B a t) (hb : DE X (wd X) B (.BoolOp .Or (b :: rest) pos) u) : DE X (wd X) B (.BoolOp .Or (a :: b :: rest) pos) (dOr t u) :=
  peI (pe_orT ha hb) fun σ H Q ⟨m, L, ds, Qd, S, q, c⟩ => ⟨m, L, ds, _, S, q, fun d L' v m' H' ⟨k, e, q'⟩ st rl r => by
    refine ⟨k, truth_of rl r e, ?_⟩
    cases k with
    | true => exact c _ L' _ m' H' q' st rl r
    | false => exact ⟨m', L', ds, Qd, S.nx st rl, q', fun d L2 v m2 H2 q2 st2 rl2 r2 => c d L2 v m2 H2 q2 (st.trans st2) rl2 r2⟩⟩
theorem t_and {a b : Expr} {rest : List Expr} {t u : TD} (ha : DT X W B a t) (hb : DW X W B (.BoolOp .And (b :: rest) pos) u) : DW X W B (.BoolOp .And (a :: b :: rest) pos) (dAnd t u) := by
  refine ⟨fun wh pins s σ H Q I h => (pw_and ha hb).run wh pins s σ H Q I ?_⟩
  obtain ⟨m, L, ds, Qd, S, q, c⟩ := h
  refine ⟨m, L, ds, _, S, q, fun d L' m' H' ⟨k, e, q'⟩ st rl => ⟨k, e, ?_⟩⟩
  cases k with
  | true => exact ⟨m', L', ds, Qd, S.nx st rl, q', fun d L2 m2 H2 q2 st2 rl2 => c d L2 m2 H2 q2 (st.trans st2) rl2⟩
  | false =>
    obtain ⟨b', e', h⟩ := c d L' m' H' q' st rl
    rw [e] at e'
    cases e'
    exact h
theorem t_or {a b : Expr} {rest : List Expr} {t u : TD} (ha : DT X W B a t) (hb : DW X W B (.BoolOp .Or (b :: rest) pos) u) : DW X W B (.BoolOp .Or (a :: b :: rest) pos) (dOr t u) := by
  refine ⟨fun wh pins s σ H Q I h => (pw_or ha hb).run wh pins s σ H Q I ?_⟩
  obtain ⟨m, L, ds, Qd, S, q, c⟩ := h
  refine ⟨m, L, ds, _, S, q, fun d L' m' H' ⟨k, e, q'⟩ st rl => ⟨k, e, ?_⟩⟩
  cases k with
  | true =>
    obtain ⟨b', e', h⟩ := c d L' m' H' q' st rl
    rw [e] at e'
    cases e'
    exact h
  | false => exact ⟨m', L', ds, Qd, S.nx st rl, q', fun d L2 m2 H2 q2 st2 rl2 => c d L2 m2 H2 q2 (st.trans st2) rl2⟩
theorem t_and1 {a : Expr} {t : TD} (ha : DT X W B a t) : DW X W B (.BoolOp .And [a] pos) t := pw_and1 ha
theorem t_or1 {a : Expr} {t : TD} (ha : DT X W B a t) : DW X W B (.BoolOp .Or [a] pos) t := pw_or1 ha
theorem e_ite {c' a b : Expr} {t ta tb : TD} (hc : DT X W B c' t) (ha : DE X W B a ta) (hb : DE X W B b tb) : DE X W B (.IfExp c' a b pos) (dIte t ta tb) :=
  peI (pe_ifExp hc ha hb) fun σ H Q ⟨m, L, ds, Qd, S, q, c⟩ => ⟨m, L, ds, _, S, q, fun d L' m' H' ⟨k, e, q'⟩ st rl => by
    refine ⟨k, e, ?_⟩
    cases k with
    | true => exact ⟨m', L', ds, Qd, S.nx st rl, q', fun d L2 v m2 H2 q2 st2 rl2 r2 => c d L2 v m2 H2 q2 (st.trans st2) rl2 r2⟩
    | false => exact ⟨m', L', ds, Qd, S.nx st rl, q', fun d L2 v m2 H2 q2 st2 rl2 r2 => c d L2 v m2 H2 q2 (st.trans st2) rl2 r2⟩⟩

/-! ### comparisons as tests -/
theorem cmpK_bl {o : C2} {L : Hl} {x y : D} {Q : D → Prop} (h : cmpK o L x y Q) : cmpK o L x y fun z => (∃ b, z = .bl b) ∧ Q z := by
  cases o with
  | eq => exact ⟨h.1, ⟨_, rfl⟩, h.2⟩
  | ne => exact ⟨h.1, ⟨_, rfl⟩, h.2⟩
  | is =>
    have h : isC L x y fun b => Q (.bl b) := h
    show isC L x y fun b => ((∃ b', D.bl b = D.bl b') ∧ Q (.bl b))
    unfold isC at h ⊢
    cases y <;> first | exact ⟨⟨_, rfl⟩, h⟩ | exact h | (cases x <;> first | exact ⟨⟨_, rfl⟩, h⟩ | exact h)
  | isnot =>
    have h : isC L x y fun b => Q (.bl (!b)) := h
    show isC L x y fun b => ((∃ b', D.bl (!b) = D.bl b') ∧ Q (.bl (!b)))
    unfold isC at h ⊢
    cases y <;> first | exact ⟨⟨_, rfl⟩, h⟩ | exact h | (cases x <;> first | exact ⟨⟨_, rfl⟩, h⟩ | exact h)
  | lt => unfold cmpK at h ⊢; dsimp only at h ⊢; split at h <;> first | exact ⟨⟨_, rfl⟩, h⟩ | exact ⟨h.1, ⟨_, rfl⟩, h.2⟩ | exact h.elim
  | le => unfold cmpK at h ⊢; dsimp only at h ⊢; split at h <;> first | exact ⟨⟨_, rfl⟩, h⟩ | exact h.elim
  | gt => unfold cmpK at h ⊢; dsimp only at h ⊢; split at h <;> first | exact ⟨⟨_, rfl⟩, h⟩ | exact h.elim
  | ge => unfold cmpK at h ⊢; dsimp only at h ⊢; split at h <;> first | exact ⟨⟨_, rfl⟩, h⟩ | exact h.elim
  | isin => unfold cmpK at h ⊢; dsimp only at h ⊢; split at h <;> first | exact ⟨h.1, ⟨_, rfl⟩, h.2⟩ | exact h.elim
  | notin => unfold cmpK at h ⊢; dsimp only at h ⊢; split at h <;> first | exact ⟨h.1, ⟨_, rfl⟩, h.2⟩ | exact h.elim
theorem t_cmp {a b : Expr} {op : CmpOp} {r : R2} {o : C2} {ta tb : TD} (hr : OpR X (compareOp op) r) (ho : Op2 W r (cmpK o)) (ha : DE X W B a ta) (hb : DE X W B b tb) (hm : behindInMarks op b = false) : DT X W B (.Compare a [op] [b] pos) (d2 (cmpK o) ta tb) :=
  ptI (pt_cmpR hr ha hb hm) fun σ H Q ⟨m, L, ds, Qd, S, q, c⟩ => by
    refine ⟨m, L, ds, _, S, q, fun x L1 v m1 H1 q1 st1 rl1 rv => ⟨m1, L1, ds, _, S.nx st1 rl1, q1, fun y L2 u m2 H2 q2 st2 rl2 ru => ?_⟩⟩
    refine ho m2 L2 H2 x y v u _ _ rl2 (rv.step st2) ru (cmpK_bl q2) fun z v' H' ⟨⟨b, ez⟩, qz⟩ n rz => ?_
    subst ez
    obtain ⟨b', e', h⟩ := c _ L2 m2 H' qz ((st1.trans st2).trans n.st) n.rl
    cases e'
    cases rz
    exact ⟨b, rfl, h⟩
/-- a o b o' c -/
def dChain (o o' : C2) (ta tb tc : TD) : TD := fun ds L Q => ta ds L fun x L1 => tb ds L1 fun y L2 => cmpK o L2 x y fun z => (match z with
    | .bl true => tc ds L2 fun w L3 => cmpK o' L3 y w fun z => Q z L3
    | .bl false => Q (.bl false) L2
    | _ => False)
theorem chain_of {r r' : R2} {o o' : C2} {ta tb tc : TD} (ho : Op2 W r (cmpK o)) (ho' : Op2 W r' (cmpK o')) {m : Nb} {L : Hl} {ds : Ds} {σ : L2.St} {H : Hp} {Qd : QE} {Q : VK} (S : Sit W B m L ds σ H) (q : dChain o o' ta tb tc ds L Qd)
    (c : ∀ b L' m' H', Qd (.bl b) L' → Step m L H m' L' H' → RepL W m' L' H' → Q (.bl b) H') : tChain r r' (lE W B ta) (lE W B tb) (lE W B tc) σ H Q := by
  refine ⟨m, L, ds, _, S, q, fun x L1 v m1 H1 q1 st1 rl1 rv => ⟨m1, L1, ds, _, S.nx st1 rl1, q1, fun y L2 u m2 H2 q2 st2 rl2 ru => ?_⟩⟩
  refine ho m2 L2 H2 x y v u _ _ rl2 (rv.step st2) ru (cmpK_bl q2) fun z v' H' ⟨⟨b, ez⟩, qz⟩ n rz => ?_
  subst ez
  cases rz
  refine ⟨b, rfl, ?_⟩
  cases b with
  | false => exact c false L2 m2 H' qz ((st1.trans st2).trans n.st) n.rl
  | true =>
    refine ⟨m2, L2, ds, _, (S.nx (st1.trans st2) rl2).nx n.st n.rl, qz, fun w L3 z m3 H3 q3 st3 rl3 rz => ?_⟩
    refine ho' m3 L3 H3 y w u z _ _ rl3 ((ru.step n.st).step st3) rz (cmpK_bl q3) fun z' v2 H4 ⟨⟨b, ez⟩, qz⟩ n' rz => ?_
    subst ez
    cases rz
    exact c b L3 m3 H4 qz ((((st1.trans st2).trans n.st).trans st3).trans n'.st) n'.rl
theorem marks_of {op op' : CmpOp} {b c : Expr} (h : behindInMarks op' c = false) : lastMarks [op, op'] [b, c] = false := h
theorem e_chain {a b c' : Expr} {op op' : CmpOp} {r r' : R2} {o o' : C2} {ta tb tc : TD} (hr : OpR X (compareOp op) r) (ho : Op2 W r (cmpK o)) (hr' : OpR X (compareOp op') r') (ho' : Op2 W r' (cmpK o')) (ha : DE X W B a ta) (hb : DE X W B b tb) (hc : DE X W B c' tc) (hm : behindInMarks op' c' = false) :
    DE X W B (.Compare a [op, op'] [b, c'] pos) (dChain o o' ta tb tc) :=
  peI (pe_chain hr hr' ha hb hc (marks_of hm)) fun σ H Q ⟨m, L, ds, Qd, S, q, c⟩ => chain_of ho ho' S q fun b L' m' H' q' st rl => c _ L' _ m' H' q' st rl (.bl b)
theorem t_chain {a b c' : Expr} {op op' : CmpOp} {r r' : R2} {o o' : C2} {ta tb tc : TD} (hr : OpR X (compareOp op) r) (ho : Op2 W r (cmpK o)) (hr' : OpR X (compareOp op') r') (ho' : Op2 W r' (cmpK o')) (ha : DE X W B a ta) (hb : DE X W B b tb) (hc : DE X W B c' tc) (hm : behindInMarks op' c' = false) :
    DT X W B (.Compare a [op, op'] [b, c'] pos) (dChain o o' ta tb tc) :=
  ptI (pt_chain hr hr' ha hb hc (marks_of hm)) fun σ H Q ⟨m, L, ds, Qd, S, q, c⟩ => chain_of ho ho' S q fun b L' m' H' q' st rl => by
    obtain ⟨b', e', h⟩ := c _ L' m' H' q' st rl
    cases e'
    exact ⟨b, rfl, h⟩

/-! ### subscripts -/
theorem vals_at {m : Nb} {L : Hl} {H : Hp} {vs : List V} {xs : List D} {i : Int} {d : D} (r : RepVs W m L H vs xs) (h : atI xs i = some d) : ∃ v, atI vs i = some v ∧ RepV W m L H v d := by
  unfold atI at h ⊢
  rw [r.length]
  cases e : ixN xs.length i with
  | none => rw [e] at h; cases h
  | some j =>
    rw [e] at h
    exact r.getD h
def rIx2 (K : PySem.W.Frag) : R2 := fun x y H Q => rIxL K x y H Q ∨ rIxT K x y H Q
theorem plainIx_of {b : Expr} (hs : isSlice b = false) : PlainIx b := by
  intro o i
  cases b <;> first | rfl | cases hs
theorem ix_ok {o : OD} (hd : ∀ L x y Q, o L x y Q → (∃ xs i v, (res L x = .tup xs ∨ res L x = .lst xs) ∧ y = .int i ∧ atI xs i = some v ∧ Q v)) : Op2 W (rIx2 W.K) o := by
  intro m L H x y v u Q Qd rl rv ru h k
  obtain ⟨xs, i, d, e, rfl, ea, q⟩ := hd L x y _ h
  cases ru
  rcases e with e | e
  · obtain ⟨rfl, p, vs, rfl, h1, h2⟩ := res_tup rv e
    obtain ⟨w, g1, g2⟩ := vals_at h2 ea
    exact .inr ⟨p, vs, i, w, rfl, rfl, h1, g1, k _ _ _ q (Nx.refl rl) g2⟩
  · obtain ⟨p, vs, rfl, h1, h2⟩ := res_lst rl rv e
    obtain ⟨w, g1, g2⟩ := vals_at h2 ea
    exact .inl ⟨p, vs, i, w, rfl, rfl, SqL.of h1, g1, k _ _ _ q (Nx.refl rl) g2⟩
end
end Nr

/-! Dicts whose keys are tuples of any depth: what stands in the heap. -/
namespace Nr
open PySem PySem.Spec PyProof.Rows L2
section
variable {X : Cx} {pins : List (Addr × Obj)} {σ : _root_.L2.St} {H : Hp} {s : Shared} {m : Nb} {L : Hl}
mutual
theorem key_is (I : Inv X pins σ H s) : ∀ {v : V} {d : D} {u : Value} (n : Nat), RepV (wd X) m L H v d → RelV v u → keyN n d = true → NestedIs s.heap (nkey d) u ∧ (nkey d).depth ≤ n
  | _, _, _, _, .non, r, _ => by
    cases r
    exact ⟨.none, Nat.zero_le _⟩
  | _, _, _, _, .bl b, r, _ => by
    cases r
    exact ⟨.bool (by cases b <;> rfl), Nat.zero_le _⟩
  | _, _, _, _, .int i, r, _ => by
    obtain ⟨t, rfl⟩ := r
    exact ⟨.int i t, Nat.zero_le _⟩
  | _, _, _, _, .str x h, r, _ => by
    obtain ⟨t, rfl⟩ := r
    exact ⟨.text x t, Nat.zero_le _⟩
  | _, _, _, n, .tup h rv ap, r, hk => by
    cases r
    cases n with
    | zero => simp [keyN] at hk
    | succ n =>
      obtain ⟨its, r2, ⟨o, ho, hc, j, hd⟩, _⟩ := I.tuple (.inl h)
      obtain ⟨g1, g2⟩ := keys_is I n rv r2 (by simpa [keyN] using hk)
      exact ⟨.tup ho hc hd g1, by simp only [nkey, NestedKey.depth]; omega⟩
  | _, _, _, n, .tupK h rv, r, hk => by
    cases r
    cases n with
    | zero => simp [keyN] at hk
    | succ n =>
      obtain ⟨its, r2, ⟨o, ho, hc, j, hd⟩, _⟩ := I.tuple (.inr h)
      obtain ⟨g1, g2⟩ := keys_is I n rv r2 (by simpa [keyN] using hk)
      exact ⟨.tup ho hc hd g1, by simp only [nkey, NestedKey.depth]; omega⟩
  | _, _, _, n, .lst _ _ _, _, hk => by cases n <;> simp [keyN] at hk
  | _, _, _, n, .scr _ _ _, _, hk => by cases n <;> simp [keyN] at hk
  | _, _, _, n, .scrK _ _, _, hk => by cases n <;> simp [keyN] at hk
  | _, _, _, n, .dct _ _ _ _, _, hk => by cases n <;> simp [keyN] at hk
  | _, _, _, n, .obj _, _, hk => by cases n <;> simp [keyN] at hk
  | _, _, _, n, .exc _ _, _, hk => by cases n <;> simp [keyN] at hk
theorem keys_is (I : Inv X pins σ H s) : ∀ {vs : List V} {ds : List D} {us : List Value} (n : Nat), RepVs (wd X) m L H vs ds → Vals vs us → ds.all (keyN n) = true → NestedAll s.heap (nkey.nkeys ds) us ∧ NestedKey.depthAll (nkey.nkeys ds) ≤ n
  | _, _, _, n, .nil, r, _ => by
    cases r
    exact ⟨.nil, Nat.zero_le _⟩
  | _, _, _, n, .cons h t, r, hk => by
    cases r with
    | cons r1 r2 =>
      rw [List.all_cons, Bool.and_eq_true] at hk
      obtain ⟨g1, g2⟩ := key_is I n h r1 hk.1
      obtain ⟨g3, g4⟩ := keys_is I n t r2 hk.2
      exact ⟨.cons g1 g3, by simp only [nkey.nkeys, NestedKey.depthAll]; omega⟩
end
abbrev nk (X : Cx) : HeapKind X.prog X.w NestedKey := nestedKind X.prog X.w
theorem key_at (I : Inv X pins σ H s) {v : V} {d : D} {u : Value} (r : RepV (wd X) m L H v d) (ru : RelV v u) (h : keyOk true d = true) : ∃ a, u = .ref a ∧ v = .ref a ∧ (nk X).is s.heap (nkey d) a := by
  have hh : keyN 8 d = true ∧ ∃ xs, d = .tup xs := by
    cases d <;> first | (cases h; done) | exact ⟨h, _, rfl⟩
  obtain ⟨h1, xs, rfl⟩ := hh
  obtain ⟨g1, g2⟩ := key_is I 8 r ru h1
  cases r with
  | tup _ _ _ => cases ru; exact ⟨_, rfl, rfl, g1, g2⟩
  | tupK _ _ => cases ru; exact ⟨_, rfl, rfl, g1, g2⟩
theorem keys_at (I : Inv X pins σ H s) : ∀ {xs : List (NestedKey × Addr × Value)} {kd : List D}, RepVs (wd X) m L H (xs.map fun x => V.ref x.2.1) kd → kd.map nkey = xs.map (·.1) → kd.all (keyOk true) = true → ∀ x ∈ xs, (nk X).is s.heap x.1 x.2.1
  | [], _, _, _, _ => fun x h => nomatch h
  | x :: xs, _, .cons r t, e, hk => by
    simp only [List.map_cons, List.cons.injEq] at e
    rw [List.all_cons, Bool.and_eq_true] at hk
    obtain ⟨a, e1, e2, g⟩ := key_at I r (u := .ref x.2.1) rfl hk.1
    cases e2
    rw [e.1] at g
    intro y hy
    rcases List.mem_cons.mp hy with rfl | hy
    · exact g
    · exact keys_at I t e.2 hk.2 y hy
/-- what DctAt says of the heap -/
theorem dn_of (I : Inv X pins σ H s) {a : Addr} {kv vv : List V} {kd : List D} (h : DctAt (wd X) H a true kv kd vv) (rk : RepVs (wd X) m L H kv kd) :
    ∃ xs : List (NestedKey × Addr × Value), s.heap.DictOfH (nk X) a xs ∧ (a == sysModules) = false ∧ xs.length ≤ sizeLine ∧ kv = xs.map (fun x => V.ref x.2.1) ∧ kd.map nkey = xs.map (·.1) ∧ Vals vv (xs.map (·.2.2)) ∧ kd.all (keyOk true) = true ∧ (xs.map (·.1)).Nodup := by
  obtain ⟨xs, ob, es, ep, hH, hs, hl, hx, hd, he, hn, e1, e2, hv, hk⟩ := h
  subst e1
  have hob : s.heap.get? a = some ob := (I.hok a _ hH).1
  exact ⟨xs, ⟨ob, es, ep, hob, hx, hd, he, keys_at I rk e2 hk, hn⟩, hs, hl, rfl, e2, hv, hk, hn⟩
/-- .. and the other way round, after a write -/
theorem dn_put {h' : Heap} {t' : Nat} (I : Inv X pins σ H s) {a : Addr} {kd : List D} {vv : List V} {xs : List (NestedKey × Addr × Value)} (mu : Mut (H a)) (hs : (a == sysModules) = false) (hd : h'.DictOfH (nk X) a xs) (hb : Heap.SameBut a s.heap h') (hl : xs.length ≤ sizeLine) (e : kd.map nkey = xs.map (·.1)) (hv : Vals vv (xs.map (·.2.2))) (hk : kd.all (keyOk true) = true) :
    ∃ o, Inv X pins σ (upd H a o) { s with heap := h', toks := t' } ∧ Mut (some o) ∧ ∀ H', H' a = some o → DctAt (wd X) H' a true (xs.map fun x => V.ref x.2.1) kd vv := by
  obtain ⟨ob, es, ep, ho, hx, hdat, he, his, hn⟩ := hd
  refine ⟨.ext fun h => h.get? a = some ob, d_write I mu hb ⟨ob, ho⟩ ⟨ho, ⟨ob, ho⟩, fun h1 h2 q k => k _ q⟩, trivial, fun H' e' => ⟨xs, ob, es, ep, e', hs, hl, hx, hdat, he, hn, rfl, e, hv, hk⟩⟩
/-- a new empty one -/
theorem dn_new {h' : Heap} {t' : Nat} (I : Inv X pins σ H s) (k : ∀ b u, s.heap.get? b = some u → h'.get? b = some u) (h : h'.get? s.heap.objs.size = some { cls := .type "dict", data := .dict #[] }) :
    ∃ o, Inv X pins σ (upd H s.heap.objs.size o) { s with heap := h', toks := t' } ∧ Mut (some o) ∧ ∀ H', H' s.heap.objs.size = some o → DctAt (wd X) H' s.heap.objs.size true [] [] [] := by
  refine ⟨.ext fun g => g.get? s.heap.objs.size = some { cls := .type "dict", data := .dict #[] }, I.laid k (Nat.le_refl _) ⟨h, ⟨_, h⟩, fun h1 h2 q k => k _ q⟩, trivial, fun H' e' => ?_⟩
  refine ⟨[], _, #[], 0, e', ?_, Nat.zero_le _, ⟨rfl, rfl, rfl⟩, rfl, rfl, List.nodup_nil, rfl, rfl, .nil, rfl⟩
  exact beq_eq_false_iff_ne.mpr (Nat.ne_of_gt I.big)
end
/-! ### a store, as the data see it -/
def putHR (xs : List (NestedKey × Addr × Value)) (k : NestedKey) (a : Addr) (v : Value) : List (NestedKey × Addr × Value) := match xs with
  | [] => [(k, a, v)]
  | x :: r => if x.1 = k then (x.1, x.2.1, v) :: r else x :: putHR r k a v
theorem putHR_eq {k : NestedKey} {a : Addr} {v : Value} : ∀ {xs : List (NestedKey × Addr × Value)}, (xs.map (·.1)).Nodup → storedH xs k a v = putHR xs k a v
  | [], _ => rfl
  | x :: r, h => by
    simp only [List.map_cons, List.nodup_cons] at h
    by_cases e : x.1 = k
    · have : atKey (x :: r) k = some x.2 := by simp [atKey, e]
      rw [storedH_old this, List.map_cons, map_putAt_of_not_mem r k v (by rw [← e]; exact h.1)]
      unfold putHR putAt
      rw [if_pos e, if_pos e]
    · have ih := putHR_eq (k := k) (a := a) (v := v) h.2
      have he : atKey (x :: r) k = atKey r k := by simp [atKey, e]
      unfold putHR
      rw [if_neg e, ← ih]
      cases q : atKey r k with
      | none => rw [storedH_new (he.trans q), storedH_new q]; rfl
      | some p =>
        rw [storedH_old (he.trans q), storedH_old q, List.map_cons]
        unfold putAt
        rw [if_neg e]
section
variable {W : Wd} {m : Nb} {L : Hl} {H : Hp}
theorem put_nest {y z : D} {u : V} {w : Value} {a : Addr} (ky : keyOk true y = true) (ry : RepV W m L H (.ref a) y) (ru : RepV W m L H u z) (rw' : RelV u w) : ∀ {xs : List (NestedKey × Addr × Value)} {ks vs : List D} {vv : List V}, RepVs W m L H (xs.map fun x => V.ref x.2.1) ks → RepVs W m L H vv vs → Vals vv (xs.map (·.2.2)) → ks.map nkey = xs.map (·.1) → ks.all (keyOk true) = true →
    RepVs W m L H ((putHR xs (nkey y) a w).map fun x => V.ref x.2.1) (dputK ks y) ∧ (∃ vv', RepVs W m L H vv' (dputV ks vs y z) ∧ Vals vv' ((putHR xs (nkey y) a w).map (·.2.2))) ∧ (dputK ks y).map nkey = (putHR xs (nkey y) a w).map (·.1) ∧ (dputK ks y).all (keyOk true) = true
  | [], _, _, _, .nil, .nil, .nil, _, _ => ⟨.cons ry .nil, ⟨[u], .cons ru .nil, .cons rw' .nil⟩, by simp [dputK, putHR], by simp [dputK, ky]⟩
  | x :: xs, _, _, _, .cons (d := k) r1 t1, .cons r2 t2, .cons r3 t3, e, hk => by
    simp only [List.map_cons, List.cons.injEq] at e
    obtain ⟨e1, e2⟩ := e
    rw [List.all_cons, Bool.and_eq_true] at hk
    unfold dputK dputV putHR
    have hq : keq k y = decide (x.1 = nkey y) := by unfold keq; rw [e1]
    rw [hq]
    by_cases h : x.1 = nkey y
    · rw [decide_eq_true h, if_pos rfl, if_pos rfl, if_pos h]
      exact ⟨.cons r1 t1, ⟨_, .cons ru t2, .cons rw' t3⟩, by simp [e1, e2], by simp [hk.1, hk.2]⟩
    · rw [decide_eq_false h, if_neg Bool.false_ne_true, if_neg Bool.false_ne_true, if_neg h]
      obtain ⟨h1, ⟨vv', h2, h2'⟩, h3, h4⟩ := put_nest ky ry ru rw' t1 t2 t3 e2 hk.2
      exact ⟨.cons r1 h1, ⟨_, .cons r2 h2, .cons r3 h2'⟩, by simp [e1, h3], by simp [hk.1, h4]⟩
end
/-! ### len -/
def LenY (W : Wd) (x : V) (H : Hp) (n : Nat) : Prop := LenV W.K x H n ∨ (∃ a kvs, x = .ref a ∧ H a = some (.dK kvs) ∧ n = kvs.length) ∨ ∃ a m L kv ks vv, x = .ref a ∧ DctAt W H a true kv ks vv ∧ RepVs W m L H kv ks ∧ n = ks.length
theorem call_lenY {X : Cx} : CallR X (.builtin "len") (fun xs H Q => ∃ x n, xs = [x] ∧ LenY (wd X) x H n ∧ Q (.int n) H) := by
  intro pins s σ H xs us Q I r ⟨x, n, e, h, q⟩
  rcases h with h | ⟨a, kvs, rfl, h, rfl⟩ | ⟨a, m, L, kv, ks, vv, rfl, h, rk, rfl⟩
  · exact call_len pins s σ H xs us Q I r ⟨x, n, e, h, q⟩
  · exact call_lenD pins s σ H xs us Q I r ⟨a, kvs, e, h, q⟩
  · subst e
    obtain ⟨u, rfl, rx⟩ := vals1 r
    cases rx
    obtain ⟨ys, hd, hs, hl, _, e2, _⟩ := dn_of I h rk
    have hlen : ks.length = ys.length := by simpa using congrArg List.length e2
    refine call_len_dictH hs hd (by rw [sizeLine_eq] at hl; omega) ?_
    rw [← hlen]
    exact ⟨.int ((ks.length : Nat) : Int), H, I.tok _, ⟨_, rfl⟩, q⟩
end Nr

/-! Expressions, more: calls, built-ins, slices, isinstance. -/
namespace Nr
open PySem PySem.Spec PyProof.Rows L2
section
variable {Φ : Phi} {B : Option En} {E : XS} {k : Nat} {Γ : Gm} {X : Cx} {W : Wd} {e : Expr} {es : List Expr} {pos : Pos}
theorem neg_ok {t : TD} (h : DE X W B e t) : DE X W B (.UnaryOp .USub e pos) (fun ds L Q => t ds L fun x L1 => (match x with
    | .int i => Q (.int (-i)) L1
    | _ => False)) := peI (pe_un un_neg h) fun σ H Q ⟨m, L, ds, Qd, S, q, c⟩ => ⟨m, L, ds, _, S, q, fun d L' v m' H' q' st rl r => by
  cases r with
  | int i => exact ⟨i, rfl, c _ L' _ m' H' q' st rl (.int _)⟩
  | _ => exact q'.elim⟩
/-! ### slices -/
def lO (W : Wd) (B : Option En) (o : Bool) (t : TD) : TO := fun σ H Q => ∃ (m : Nb) (L : Hl) (ds : Ds) (Qd : Option Int → Hl → Prop), Sit W B m L ds σ H ∧ partK o (t ds) L Qd ∧
  ∀ i L' m' H', Qd i L' → Step m L H m' L' H' → RepL W m' L' H' → Q i H'
theorem po_omit {t : TD} : PO X none (lO W B true t) := ⟨fun pins s σ H Q I ⟨m, L, ds, Qd, S, q, c⟩ => po_none.run pins s σ H Q I (c none L m H (by unfold partK at q; exact q) Step.refl S.rl)⟩
theorem po_e {t : TD} (h : DE X W B e t) : PO X (some e) (lO W B false t) := ⟨fun pins s σ H Q I ⟨m, L, ds, Qd, S, q, c⟩ => (po_some h).run pins s σ H Q I
  ⟨m, L, ds, _, S, (by unfold partK at q; exact q), fun d L' v m' H' q' st rl r => by
    unfold optI at q'
    cases r with
    | int i => exact ⟨i, rfl, c _ L' m' H' q' st rl⟩
    | _ => exact q'.elim⟩⟩
theorem cut_rep {m : Nb} {L : Hl} {H : Hp} {vs : List V} {xs : List D} (r : RepVs W m L H vs xs) (lo hi : Option Int) : RepVs W m L H (cutV vs lo hi) (cutD xs lo hi) := by
  unfold cutV cutD
  rw [r.length]
  exact (r.drop _).take _
def rSl2 (K : PySem.W.Frag) : V → Option Int → Option Int → Hp → VK → Prop := fun x lo hi H Q => rSlA K x lo hi H Q ∨ rSlL K x lo hi H Q
theorem whole_cut {α : Type} {xs : List α} {lo hi : Option Int} (h : HT.sIx xs.length 0 lo = 0 ∧ HT.sIx xs.length xs.length hi = xs.length) : (xs.drop (HT.sIx xs.length 0 lo)).take (HT.sIx xs.length xs.length hi - HT.sIx xs.length 0 lo) = xs := by
  rw [h.1, h.2]
  simp
theorem slc_ok {lo hi : Option Expr} {a : Expr} {p2 : Pos} {ol oh : Bool} {ta tl th : TD} (ha : DE X (wd X) B a ta) (hl : PO X lo (lO (wd X) B ol tl)) (hh : PO X hi (lO (wd X) B oh th)) :
    DE X (wd X) B (.Subscript a (.Slice lo hi none p2) pos) (fun ds L Q => ta ds L fun x L1 => partK ol (tl ds) L1 fun l L2 => partK oh (th ds) L2 fun u L3 => slcK L3 x l u fun z => Q z L3) :=
  peI (pe_slice (r := rSl2 X.K) (SlR.or sl_tupA sl_list) ha hl hh) fun σ H Q ⟨m, L, ds, Qd, S, q, c⟩ =>
    ⟨m, L, ds, _, S, q, fun x L1 v m1 H1 q1 st1 rl1 r1 => ⟨m1, L1, ds, _, S.nx st1 rl1, q1, fun l L2 m2 H2 q2 st2 rl2 => ⟨m2, L2, ds, _, S.nx (st1.trans st2) rl2, q2, fun u L3 m3 H3 q3 st3 rl3 => by
      have r3 := (r1.step st2).step st3
      have st := (st1.trans st2).trans st3
      unfold slcK at q3
      split at q3
      · rename_i xs ex
        obtain ⟨rfl, p, vs, rfl, h1, h2⟩ := res_tup r3 ex
        refine .inl ⟨p, vs, rfl, h1, fun w => ?_, fun _ q hq => ?_⟩
        · have e : cutD xs l u = xs := by
            have := h2.length
            rw [this] at w
            exact whole_cut w
          rw [e] at q3
          exact c _ L3 _ m3 H3 q3 st rl3 r3
        · exact c _ L3 _ m3 _ q3 (st.trans (Step.laid hq)) (rl3.laid hq) (rep_tup rl3 hq (cut_rep h2 l u))
      · rename_i xs ex
        obtain ⟨p, vs, rfl, h1, h2⟩ := res_lst rl3 r3 ex
        exact .inr ⟨p, vs, rfl, SqL.of h1, fun q hq => c _ L3 _ m3 _ q3 (st.trans (Step.laid hq)) (rl3.laid hq) (rep_lst rl3 hq (cut_rep h2 l u))⟩
      · rename_i xs ex
        obtain ⟨p, vs, rfl, h1, h2, _⟩ := res_scr r3 ex
        exact .inr ⟨p, vs, rfl, h1, fun q hq => c _ L3 _ m3 _ q3 (st.trans (Step.laid hq)) (rl3.laid hq) (rep_lst rl3 hq (cut_rep h2 l u))⟩
      · exact q3.elim⟩⟩⟩

/-! ### built-ins -/
/-- the rule r serves the built-in b -/
def BiD (W : Wd) (r : List V → Hp → VK → Prop) (b : Bi) : Prop := ∀ (m : Nb) (L : Hl) (H : Hp) (vs : List V) (xs : List D) (Q : VK) (Qd : D → Prop), RepL W m L H → RepVs W m L H vs xs → biK b L xs Qd →
  (∀ z v' H', Qd z → Nx W m L H H' → RepV W m L H' v' z → Q v' H') → r vs H Q
theorem tCB_of {r : List V → Hp → VK → Prop} {b : Bi} (hr : BiD W r b) {t : TDs} {σ : L2.St} {H : Hp} {Q : VK} (h : lE W B (fun ds L Q => t ds L fun xs L1 => biK b L1 xs fun z => Q z L1) σ H Q) : tCB r (lA W B t) σ H Q := by
  obtain ⟨m, L, ds, Qd, S, q, c⟩ := h
  exact ⟨m, L, ds, _, S, q, fun xs L1 vs m1 H1 q1 st1 rl1 rv => hr m1 L1 H1 vs xs Q _ rl1 rv q1 fun z v' H' qz n rz => c z L1 v' m1 H' qz (st1.trans n.st) n.rl rz⟩
theorem one_of {m : Nb} {L : Hl} {H : Hp} {vs : List V} {x : D} (r : RepVs W m L H vs [x]) : ∃ v, vs = [v] ∧ RepV W m L H v x := by
  cases r with
  | cons h t => cases t; exact ⟨_, rfl, h⟩
theorem two_of {m : Nb} {L : Hl} {H : Hp} {vs : List V} {x y : D} (r : RepVs W m L H vs [x, y]) : ∃ v u, vs = [v, u] ∧ RepV W m L H v x ∧ RepV W m L H u y := by
  cases r with
  | cons h t =>
    cases t with
    | cons h' t => cases t; exact ⟨_, _, rfl, h, h'⟩
theorem ints_rep {m : Nb} {L : Hl} {H : Hp} : ∀ {vs : List V} {xs : List D} {ns : List Int}, RepVs W m L H vs xs → intsOf xs = some ns → vs = ns.map V.int
  | _, _, _, .nil, e => by cases e; rfl
  | _, _, ns, .cons (d := d) h t, e => by
    cases h with
    | int i =>
      unfold intsOf at e
      rename_i ds
      cases q : intsOf ds with
      | none => rw [q] at e; cases e
      | some ms =>
        rw [q] at e
        cases e
        rw [ints_rep t q]
        rfl
    | _ => cases e
theorem bls_rep {m : Nb} {L : Hl} {H : Hp} : ∀ {vs : List V} {xs : List D} {ns : List Bool}, RepVs W m L H vs xs → blsOf xs = some ns → vs = ns.map V.bl
  | _, _, _, .nil, e => by cases e; rfl
  | _, _, ns, .cons (d := d) h t, e => by
    cases h with
    | bl i =>
      unfold blsOf at e
      rename_i ds
      cases q : blsOf ds with
      | none => rw [q] at e; cases e
      | some ms =>
        rw [q] at e
        cases e
        rw [bls_rep t q]
        rfl
    | _ => cases e
theorem len_ok {m : Nb} {L : Hl} {H : Hp} {v : V} {x : D} {Qd : D → Prop} (rl : RepL W m L H) (r : RepV W m L H v x) (h : lenK L x Qd) : ∃ n : Nat, LenY W v H n ∧ Qd (.int n) := by
  unfold lenK at h
  split at h
  · rename_i xs ex
    obtain ⟨rfl, p, vs, rfl, h1, h2⟩ := res_tup r ex
    exact ⟨_, .inl (.inr ⟨vs, h1, h2.length.symm⟩), h⟩
  · rename_i xs ex
    obtain ⟨p, vs, rfl, h1, h2⟩ := res_lst rl r ex
    exact ⟨_, .inl (.inl ⟨vs, SqL.of h1, h2.length.symm⟩), h⟩
  · rename_i xs ex
    obtain ⟨p, vs, rfl, h1, h2, _⟩ := res_scr r ex
    exact ⟨_, .inl (.inl ⟨vs, h1, h2.length.symm⟩), h⟩
  · rename_i t ks vs ex
    obtain ⟨p, kv, vv, rfl, h1, h2, h3⟩ := res_dct rl r ex
    cases t with
    | false =>
      obtain ⟨kvs, hk, e1, _⟩ := h1
      refine ⟨_, .inr (.inl ⟨p, kvs, rfl, hk, ?_⟩), h⟩
      rw [← h2.length, e1, List.length_map]
    | true => exact ⟨_, .inr (.inr ⟨p, m, L, kv, ks, vv, rfl, h1, h2, rfl⟩), h⟩
  · rename_i x ex
    obtain ⟨rfl, _⟩ := res_str r ex
    exact ⟨_, .inl ⟨h.1, rfl⟩, h.2⟩
  · exact h.elim
theorem bd_len : BiD W (fun xs H Q => ∃ x n, xs = [x] ∧ LenY W x H n ∧ Q (.int n) H) .len := by
  intro m L H vs xs Q Qd rl rv h k
  unfold biK at h
  split at h <;> try contradiction
  rename_i b x e
  obtain ⟨v, rfl, r⟩ := one_of rv
  obtain ⟨n, h1, h2⟩ := len_ok rl r h
  exact ⟨v, n, rfl, h1, k _ _ _ h2 (Nx.refl rl) (.int _)⟩
theorem bd_abs : BiD W (fun xs H Q => ∃ i, xs = [.int i] ∧ Q (.int (if i < 0 then -i else i)) H) .abs := by
  intro m L H vs xs Q Qd rl rv h k
  unfold biK at h
  split at h <;> try contradiction
  obtain ⟨v, rfl, r⟩ := one_of rv
  cases r
  exact ⟨_, rfl, k _ _ _ h (Nx.refl rl) (.int _)⟩
theorem bd_int : BiD W (fun xs H Q => (∃ i, xs = [.int i] ∧ Q (.int i) H) ∨ ∃ k, xs = [.bl k] ∧ Q (.int (if k then 1 else 0)) H) .int := by
  intro m L H vs xs Q Qd rl rv h k
  unfold biK at h
  split at h <;> try contradiction
  · obtain ⟨v, rfl, r⟩ := one_of rv
    cases r
    exact .inl ⟨_, rfl, k _ _ _ h (Nx.refl rl) (.int _)⟩
  · obtain ⟨v, rfl, r⟩ := one_of rv
    cases r
    exact .inr ⟨_, rfl, k _ _ _ h (Nx.refl rl) (.int _)⟩
theorem bd_sum : BiD W (rSum W.K) .sum := by
  intro m L H vs xs Q Qd rl rv h k
  unfold biK at h
  split at h <;> try contradiction
  split at h
  · rename_i xs e
    obtain ⟨ns, e1, q⟩ := h
    obtain ⟨v, rfl, r⟩ := one_of rv
    obtain ⟨p, vs, rfl, h1, h2⟩ := res_lst rl r e
    rw [ints_rep h2 e1] at h1
    exact ⟨p, ns, rfl, SqL.of h1, k _ _ _ q (Nx.refl rl) (.int _)⟩
  · exact h.elim
theorem bd_all : BiD W (rAll W.K) .all := by
  intro m L H vs xs Q Qd rl rv h k
  unfold biK at h
  split at h <;> try contradiction
  split at h
  · rename_i xs e
    obtain ⟨ns, e1, q⟩ := h
    obtain ⟨v, rfl, r⟩ := one_of rv
    obtain ⟨p, vs, rfl, h1, h2⟩ := res_lst rl r e
    rw [bls_rep h2 e1] at h1
    exact ⟨p, ns, rfl, SqL.of h1, k _ _ _ q (Nx.refl rl) (.bl _)⟩
  · exact h.elim
theorem bd_any : BiD W (rAny W.K) .any := by
  intro m L H vs xs Q Qd rl rv h k
  unfold biK at h
  split at h <;> try contradiction
  split at h
  · rename_i xs e
    obtain ⟨ns, e1, q⟩ := h
    obtain ⟨v, rfl, r⟩ := one_of rv
    obtain ⟨p, vs, rfl, h1, h2⟩ := res_lst rl r e
    rw [bls_rep h2 e1] at h1
    exact ⟨p, ns, rfl, SqL.of h1, k _ _ _ q (Nx.refl rl) (.bl _)⟩
  · exact h.elim
theorem seq_ok {m : Nb} {L : Hl} {H : Hp} {v : V} {x : D} {Qd : List D → Prop} (rl : RepL W m L H) (r : RepV W m L H v x) (h : seqK L x Qd) : ∃ p vs xs, v = .ref p ∧ RepVs W m L H vs xs ∧ Qd xs ∧ ((SqL W.K H p vs) ∨ (SqT W.K H p vs ∧ x = .tup xs)) := by
  unfold seqK at h
  split at h
  · rename_i xs ex
    obtain ⟨rfl, p, vs, rfl, h1, h2⟩ := res_tup r ex
    exact ⟨p, vs, xs, rfl, h2, h, .inr ⟨h1, rfl⟩⟩
  · rename_i xs ex
    obtain ⟨p, vs, rfl, h1, h2⟩ := res_lst rl r ex
    exact ⟨p, vs, xs, rfl, h2, h, .inl (SqL.of h1)⟩
  · rename_i xs ex
    obtain ⟨p, vs, rfl, h1, h2, _⟩ := res_scr r ex
    exact ⟨p, vs, xs, rfl, h2, h, .inl h1⟩
  · exact h.elim
def rTupOf (K : PySem.W.Frag) : List V → Hp → VK → Prop := fun xs H Q => ∃ p ys, xs = [.ref p] ∧ ((SqL K H p ys ∧ ∀ l, H l = none → Q (.ref l) (upd H l (.tup ys))) ∨ (SqT K H p ys ∧ Q (.ref p) H))
theorem bd_tuple : BiD W (rTupOf W.K) .tuple := by
  intro m L H vs xs Q Qd rl rv h k
  unfold biK at h
  split at h <;> try contradiction
  obtain ⟨v, rfl, r⟩ := one_of rv
  obtain ⟨p, vs, xs, rfl, h1, h2, h3⟩ := seq_ok rl r h
  rcases h3 with h3 | ⟨h3, rfl⟩
  · exact ⟨p, vs, rfl, .inl ⟨h3, fun l hl => k _ _ _ h2 (Nx.laid rl hl) (rep_tup rl hl h1)⟩⟩
  · exact ⟨p, vs, rfl, .inr ⟨h3, k _ _ _ h2 (Nx.refl rl) r⟩⟩
theorem bd_min2 : BiD W (fun xs H Q => ∃ i j, xs = [.int i, .int j] ∧ Q (.int (if j < i then j else i)) H) .min := by
  intro m L H vs xs Q Qd rl rv h k
  unfold biK at h
  split at h <;> try contradiction
  obtain ⟨v, u, rfl, r1, r2⟩ := two_of rv
  cases r1
  cases r2
  exact ⟨_, _, rfl, k _ _ _ h (Nx.refl rl) (.int _)⟩
theorem bd_max2 : BiD W (fun xs H Q => ∃ i j, xs = [.int i, .int j] ∧ Q (.int (if j > i then j else i)) H) .max := by
  intro m L H vs xs Q Qd rl rv h k
  unfold biK at h
  split at h <;> try contradiction
  obtain ⟨v, u, rfl, r1, r2⟩ := two_of rv
  cases r1
  cases r2
  exact ⟨_, _, rfl, k _ _ _ h (Nx.refl rl) (.int _)⟩
/-! ### min, max of one argument -/
mutual
theorem toP_inj : ∀ {a b : D} {n k : Nat}, plain n a = true → plain k b = true → toP a = toP b → a = b
  | .tup xs, b, n, k, ha, hb, e => by
    cases b <;> first | (simp [toP] at e; done) | (cases k <;> simp [plain] at hb; done) | skip
    cases n with
    | zero => simp [plain] at ha
    | succ n =>
      cases k with
      | zero => simp [plain] at hb
      | succ k =>
        have := toPs_inj (n := n) (k := k) (by simpa [plain] using ha) (by simpa [plain] using hb) (by simpa [toP] using e)
        rw [this]
  | .lst xs, b, n, k, ha, hb, e => by
    cases b <;> first | (simp [toP] at e; done) | (cases k <;> simp [plain] at hb; done) | skip
    cases n with
    | zero => simp [plain] at ha
    | succ n =>
      cases k with
      | zero => simp [plain] at hb
      | succ k =>
        have := toPs_inj (n := n) (k := k) (by simpa [plain] using ha) (by simpa [plain] using hb) (by simpa [toP] using e)
        rw [this]
  | .non, b, n, k, ha, hb, e => by cases b <;> first | rfl | (simp [toP] at e; done) | (cases k <;> simp [plain] at hb; done)
  | .bl _, b, n, k, ha, hb, e => by cases b <;> first | (simp [toP] at e; done) | (simp [toP] at e; rw [e]; done) | (cases k <;> simp [plain] at hb; done)
  | .int _, b, n, k, ha, hb, e => by cases b <;> first | (simp [toP] at e; done) | (simp [toP] at e; rw [e]; done) | (cases k <;> simp [plain] at hb; done)
  | .str _, b, n, k, ha, hb, e => by cases b <;> first | (simp [toP] at e; done) | (simp [toP] at e; rw [e]; done) | (cases k <;> simp [plain] at hb; done)
  | .scr _, b, n, k, ha, hb, e => by cases n <;> simp [plain] at ha
  | .dct _ _ _, b, n, k, ha, hb, e => by cases n <;> simp [plain] at ha
  | .obj _, b, n, k, ha, hb, e => by cases n <;> simp [plain] at ha
  | .exc _, b, n, k, ha, hb, e => by cases n <;> simp [plain] at ha
theorem toPs_inj : ∀ {xs ys : List D} {n k : Nat}, xs.all (plain n) = true → ys.all (plain k) = true → toP.toPs xs = toP.toPs ys → xs = ys
  | [], [], _, _, _, _, _ => rfl
  | [], _ :: _, _, _, _, _, e => by simp [toP.toPs] at e
  | _ :: _, [], _, _, _, _, e => by simp [toP.toPs] at e
  | x :: xs, y :: ys, n, k, ha, hb, e => by
    rw [List.all_cons, Bool.and_eq_true] at ha hb
    simp only [toP.toPs, List.cons.injEq] at e
    rw [toP_inj ha.1 hb.1 e.1, toPs_inj ha.2 hb.2 e.2]
end
theorem toPs_map : ∀ xs : List D, toP.toPs xs = xs.map toP
  | [] => rfl
  | x :: xs => by simp only [toP.toPs, List.map_cons, toPs_map xs]
theorem least_toP : ∀ (x : D) (xs : List D), toP (leastD x xs) = PySem.W.minD (toP x) (xs.map toP)
  | x, [] => rfl
  | x, y :: ys => by
    show toP (leastD (if dlt y x = true then y else x) ys) = PySem.W.minD (if PySem.W.dataLt (toP y) (toP x) then toP y else toP x) (ys.map toP)
    rw [least_toP]
    unfold dlt
    split <;> rfl
theorem most_toP : ∀ (x : D) (xs : List D), toP (mostD x xs) = PySem.W.maxD (toP x) (xs.map toP)
  | x, [] => rfl
  | x, y :: ys => by
    show toP (mostD (if dlt x y = true then y else x) ys) = PySem.W.maxD (if PySem.W.dataLt (toP x) (toP y) then toP y else toP x) (ys.map toP)
    rw [most_toP]
    unfold dlt
    split <;> rfl
theorem fold_mem {f : D → D → Bool} : ∀ (x : D) (xs : List D), xs.foldl (fun a z => if f a z = true then z else a) x ∈ x :: xs
  | x, [] => by simp
  | x, y :: ys => by
    rw [List.foldl_cons]
    by_cases hf : f x y = true
    · rw [if_pos hf]
      exact List.mem_cons_of_mem _ (fold_mem (f := f) y ys)
    · rw [if_neg hf]
      rcases List.mem_cons.mp (fold_mem (f := f) x ys) with h | h
      · rw [h]; exact List.mem_cons_self
      · exact List.mem_cons_of_mem _ (List.mem_cons_of_mem _ h)
theorem least_mem (x : D) (xs : List D) : leastD x xs ∈ x :: xs := fold_mem (f := fun a z => dlt z a) x xs
theorem most_mem (x : D) (xs : List D) : mostD x xs ∈ x :: xs := fold_mem (f := fun a z => dlt a z) x xs
theorem alikes_all {xs : List D} (h : alikes xs = true) (hn : xs.all (fun z => !isNon z) = true) : xs.all (plain 60) = true ∧ PySem.W.AlikeAll (xs.map toP) := by
  unfold alikes at h
  rw [Bool.and_eq_true] at h
  refine ⟨h.1, fun d hd d' hd' => ?_, fun d hd => ?_⟩
  · obtain ⟨x, hx, rfl⟩ := List.mem_map.mp hd
    obtain ⟨y, hy, rfl⟩ := List.mem_map.mp hd'
    exact List.all_eq_true.mp (List.all_eq_true.mp h.2 x hx) y hy
  · obtain ⟨x, hx, rfl⟩ := List.mem_map.mp hd
    have h1 := List.all_eq_true.mp h.1 x hx
    have h2 := List.all_eq_true.mp hn x hx
    cases x <;> simp_all [toP, isNon, plain]
def rBest (W : Wd) (f : D → List D → D) : List V → Hp → VK → Prop := fun vs H Q => ∃ l m L kv x xs, vs = [.ref l] ∧ (SqL W.K H l kv ∨ SqT W.K H l kv) ∧ RepVs W m L H kv (x :: xs) ∧ alikes (x :: xs) = true ∧ (x :: xs).all (fun z => !isNon z) = true ∧ ∀ v, RepV W m L H v (f x xs) → Q v H
section
variable {X : Cx} {pins : List (Addr × Obj)} {σ : _root_.L2.St} {H : Hp} {s : Shared}
theorem best_fin {x : D} {xs : List D} {b : D} {bd : PyData} {m : Nb} {L : Hl} {kv : List V} {us : List Value} {Q : VK} {i : Nat} {v : Value} {h' : Heap} {tk : Nat} {bs : List Addr} (I : Inv X pins σ H s) (rv : RepVs (wd X) m L H kv (x :: xs)) (r : Vals kv us) (hp : (x :: xs).all (plain 60) = true) (hal : PySem.W.AlikeAll ((x :: xs).map toP))
    (hb : b ∈ x :: xs) (hbd : toP b = bd) (hi : us.toArray[i]? = some v) (rd : Reads h' v bd bs) (k : ∀ b o, s.heap.get? b = some o → h'.get? b = some o) (q : ∀ v, RepV (wd X) m L H v b → Q v H) : EP X pins σ Q v { s with heap := h', toks := tk } := by
  have I1 : Inv X pins σ H { s with heap := h', toks := tk } := I.kept k
  have hi' : us[i]? = some v := by simpa using hi
  have hv : ∃ w, kv[i]? = some w ∧ RelV w v := by
    cases e : kv[i]? with
    | none => rw [r.none_of e] at hi'; cases hi'
    | some w =>
      obtain ⟨u, e2, rw'⟩ := r.get e
      rw [e2] at hi'
      cases hi'
      exact ⟨w, rfl, rw'⟩
  obtain ⟨w, ew, rw'⟩ := hv
  obtain ⟨d, ed, rd'⟩ := rv.get ew
  have md : d ∈ x :: xs := List.mem_of_getElem? ed
  obtain ⟨h1, _, _⟩ := dp_of rd' 60 (List.all_eq_true.mp hp d md)
  obtain ⟨as, r2⟩ := Dp.reads I1 _ _ _ h1 rw'
  have e1 : toP d = bd := by
    refine PySem.W.alike_unique _ _ v as bs ?_ r2 rd
    rw [← hbd]
    exact hal.1 _ (List.mem_map.mpr ⟨d, md, rfl⟩) _ (List.mem_map.mpr ⟨b, hb, rfl⟩)
  have e2 : d = b := toP_inj (List.all_eq_true.mp hp d md) (List.all_eq_true.mp hp b hb) (e1.trans hbd.symm)
  subst e2
  exact ⟨w, H, I1, rw', q w rd'⟩
theorem depth_all {m : Nb} {L : Hl} {kv : List V} {xs : List D} (rv : RepVs (wd X) m L H kv xs) (hp : xs.all (plain 60) = true) : PyData.depthAll (xs.map toP) ≤ 60 := by
  rw [← toPs_map]
  exact (dps_of rv 60 hp).2.2
theorem call_min1 (hc : X.calm = true) (hu : X.A.units + 130 < cLine) : CallR X (.builtin "min") (rBest (wd X) leastD) := by
  intro pins s σ H vs us Q I r ⟨l, m, L, kv, x, xs, e, c, rv, ha, hn, q⟩
  subst e
  obtain ⟨u, rfl, ru⟩ := vals1 r
  cases ru
  obtain ⟨hp, hal⟩ := alikes_all ha hn
  have hd := depth_all rv hp
  obtain ⟨hda, _, _⟩ := dps_of rv 60 hp
  rw [toPs_map] at hda
  rcases c with c | c
  · obtain ⟨its, r2, pl, _⟩ := I.list c
    obtain ⟨as, rd⟩ := Dp.readsAll I _ _ _ hda r2
    exact PySem.W.min_list_data (A := X.A) (I.ok.hd hc) pl.isList rd hal (by simp only [List.map_cons] at hd; omega) fun i v h' tk bs hi rr k => best_fin I rv r2 hp hal (least_mem x xs) (least_toP x xs) hi rr k q
  · obtain ⟨its, r2, pl, _⟩ := I.tuple c
    obtain ⟨as, rd⟩ := Dp.readsAll I _ _ _ hda r2
    exact PySem.W.min_tuple_data (A := X.A) (I.ok.hd hc) (show s.heap.IsTuple l its.toArray from pl) rd hal (by simp only [List.map_cons] at hd; omega) fun i v h' tk bs hi rr k => best_fin I rv r2 hp hal (least_mem x xs) (least_toP x xs) hi rr k q
theorem call_max1 (hc : X.calm = true) (hu : X.A.units + 130 < cLine) : CallR X (.builtin "max") (rBest (wd X) mostD) := by
  intro pins s σ H vs us Q I r ⟨l, m, L, kv, x, xs, e, c, rv, ha, hn, q⟩
  subst e
  obtain ⟨u, rfl, ru⟩ := vals1 r
  cases ru
  obtain ⟨hp, hal⟩ := alikes_all ha hn
  have hd := depth_all rv hp
  obtain ⟨hda, _, _⟩ := dps_of rv 60 hp
  rw [toPs_map] at hda
  rcases c with c | c
  · obtain ⟨its, r2, pl, _⟩ := I.list c
    obtain ⟨as, rd⟩ := Dp.readsAll I _ _ _ hda r2
    exact PySem.W.max_list_data (A := X.A) (I.ok.hd hc) pl.isList rd hal (by simp only [List.map_cons] at hd; omega) fun i v h' tk bs hi rr k => best_fin I rv r2 hp hal (most_mem x xs) (most_toP x xs) hi rr k q
  · obtain ⟨its, r2, pl, _⟩ := I.tuple c
    obtain ⟨as, rd⟩ := Dp.readsAll I _ _ _ hda r2
    exact PySem.W.max_tuple_data (A := X.A) (I.ok.hd hc) (show s.heap.IsTuple l its.toArray from pl) rd hal (by simp only [List.map_cons] at hd; omega) fun i v h' tk bs hi rr k => best_fin I rv r2 hp hal (most_mem x xs) (most_toP x xs) hi rr k q
end
theorem bd_min1 : BiD W (rBest W leastD) .min1 := by
  intro m L H vs xs Q Qd rl rv h k
  unfold biK at h
  split at h <;> try contradiction
  rename_i x _
  obtain ⟨v, rfl, r⟩ := one_of rv
  obtain ⟨p, us, ys, rfl, h1, h2, h3⟩ := seq_ok rl r h
  split at h2
  · exact ⟨p, m, L, us, _, _, rfl, h3.imp id (·.1), h1, h2.1.1, h2.1.2, fun w rw' => k _ _ _ h2.2 (Nx.refl rl) rw'⟩
  · exact h2.elim
theorem bd_max1 : BiD W (rBest W mostD) .max1 := by
  intro m L H vs xs Q Qd rl rv h k
  unfold biK at h
  split at h <;> try contradiction
  rename_i x _
  obtain ⟨v, rfl, r⟩ := one_of rv
  obtain ⟨p, us, ys, rfl, h1, h2, h3⟩ := seq_ok rl r h
  split at h2
  · exact ⟨p, m, L, us, _, _, rfl, h3.imp id (·.1), h1, h2.1.1, h2.1.2, fun w rw' => k _ _ _ h2.2 (Nx.refl rl) rw'⟩
  · exact h2.elim
theorem noStar_any {env : Env} : ∀ {es : List Expr}, (es.all fun e => !starE e) = true → (starEach es env).any (·.1) = false
  | [], _ => rfl
  | e :: es, h => by
    rw [List.all_cons, Bool.and_eq_true] at h
    rw [star_of (by simpa using h.1), List.any_cons, noStar_any h.2]
    rfl
theorem back_any {l : List (Bool × Sem Value)} : (backTo pos l).any (·.1) = l.any (·.1) := by
  unfold backTo
  rw [List.any_map]
  rfl
theorem plain_args {env : Env} {es : List Expr} (h : (es.all fun e => !starE e) = true) : (backTo pos (starEach es env)).any (·.1) = false := by
  rw [back_any]
  exact noStar_any h
theorem chkEs_star : ∀ (ir : IEs) (es : List Expr), chkEs Γ ir es = true → (es.all fun e => !starE e) = true
  | .nil, es, h => by
    unfold chkEs at h
    split at h
    · rfl
    · cases h
  | .cons i ir, es, h => by
    unfold chkEs at h
    split at h
    · obtain ⟨h1, h2⟩ := b2 h
      rw [List.all_cons, chkE_star i _ h1, chkEs_star ir _ h2]
      rfl
    · cases h
def dBi (b : Bi) (t : TDs) : TD := fun ds L Q => t ds L fun xs L1 => biK b L1 xs fun z => Q z L1
/-- a built-in function, a built-in class, called -/
theorem callB_ok {b : Bi} {x : Str} {id : String} {p : Pos} {t : TDs} {r : List V → Hp → VK → Prop} (G : Good Φ B E k Γ X) (hx : Γ.gl x = true) (hm : X.mg x = none) (hv : bootBuiltins x = some (.builtin id)) (hc : CallR X (.builtin id) r) (hr : BiD (wd X) r b) (hs : ((e :: es).all fun e => !starE e) = true) (ha : DA X (wd X) B (e :: es) t) :
    DE X (wd X) B (.Call (.Name x p) (e :: es) [] pos) (dBi b t) := by
  rw [List.all_cons, Bool.and_eq_true] at hs
  obtain ⟨g1, g2, g3⟩ := G.gl hx
  exact peI (pe_callB hc g1 hm hv ha g3 g2 (star_of (by simpa using hs.1)) (plain_args hs.2)) fun σ H Q h => tCB_of hr h
theorem callTy_ok {b : Bi} {x : Str} {T : String} {p : Pos} {t : TDs} {r : List V → Hp → VK → Prop} (G : Good Φ B E k Γ X) (hx : Γ.gl x = true) (hm : X.mg x = none) (hv : bootBuiltins x = some (.type T)) (hc : CallR X (.type T) r) (hr : BiD (wd X) r b) (hs : ((e :: es).all fun e => !starE e) = true) (ha : DA X (wd X) B (e :: es) t) :
    DE X (wd X) B (.Call (.Name x p) (e :: es) [] pos) (dBi b t) := by
  rw [List.all_cons, Bool.and_eq_true] at hs
  obtain ⟨g1, g2, g3⟩ := G.gl hx
  exact peI (pe_callTy hc g1 hm hv ha g3 g2 (star_of (by simpa using hs.1)) (plain_args hs.2)) fun σ H Q h => tCB_of hr h
theorem bi_ok {b : Bi} {x : Str} {p : Pos} {t : TDs} (G : Good Φ B E k Γ X) (hx : Γ.gl x = true) (hb : x = Str.ofString (biName b)) (hs : ((e :: es).all fun e => !starE e) = true) (ha : DA X (wd X) B (e :: es) t) :
    DE X (wd X) B (.Call (.Name x p) (e :: es) [] pos) (dBi b t) := by
  cases b with
  | len => exact callB_ok G hx (by rw [hb]; exact G.blt _ (by decide +kernel)) (by rw [hb]; decide +kernel) call_lenY bd_len hs ha
  | abs => exact callB_ok G hx (by rw [hb]; exact G.blt _ (by decide +kernel)) (by rw [hb]; decide +kernel) call_abs bd_abs hs ha
  | min => exact callB_ok G hx (by rw [hb]; exact G.blt _ (by decide +kernel)) (by rw [hb]; decide +kernel) (call_min2 G.calm) bd_min2 hs ha
  | min1 => exact callB_ok G hx (by rw [hb]; exact G.blt _ (by decide +kernel)) (by rw [hb]; decide +kernel) (call_min1 G.calm (by have := G.units; omega)) bd_min1 hs ha
  | max1 => exact callB_ok G hx (by rw [hb]; exact G.blt _ (by decide +kernel)) (by rw [hb]; decide +kernel) (call_max1 G.calm (by have := G.units; omega)) bd_max1 hs ha
  | max => exact callB_ok G hx (by rw [hb]; exact G.blt _ (by decide +kernel)) (by rw [hb]; decide +kernel) (call_max2 G.calm) bd_max2 hs ha
  | sum => exact callB_ok G hx (by rw [hb]; exact G.blt _ (by decide +kernel)) (by rw [hb]; decide +kernel) (cr_sum G.calm) bd_sum hs ha
  | all => exact callB_ok G hx (by rw [hb]; exact G.blt _ (by decide +kernel)) (by rw [hb]; decide +kernel) (cr_all G.calm) bd_all hs ha
  | any => exact callB_ok G hx (by rw [hb]; exact G.blt _ (by decide +kernel)) (by rw [hb]; decide +kernel) (cr_any G.calm) bd_any hs ha
  | int => exact callTy_ok G hx (by rw [hb]; exact G.blt _ (by decide +kernel)) (by rw [hb]; decide +kernel) call_int1 bd_int hs ha
  | tuple => exact callTy_ok G hx (by rw [hb]; exact G.blt _ (by decide +kernel)) (by rw [hb]; decide +kernel) call_tuple_of bd_tuple hs ha

/-! ### isinstance -/
def tnStr : Tn → String
  | .non => "NoneType" | .bl => "bool" | .int => "int" | .str => "str" | .tup => "tuple" | .lst => "list" | .dct => "dict"
def tyStr : Ty → String
  | .int => "int" | .bool => "bool" | .str => "str" | .tuple => "tuple" | .list => "list" | .dict => "dict" | _ => ""
theorem tn_of {m : Nb} {L : Hl} {H : Hp} {v : V} {d : D} {n : Tn} (rl : RepL W m L H) (r : RepV W m L H v d) (h : tnOf L d = some n) (hn : n ≠ .dct) : TyX W.K H v (.type (tnStr n)) := by
  unfold tnOf at h
  split at h <;> cases h
  · rename_i e; rw [res_non r e]; exact .base .non
  · rename_i e; rw [res_bl r e]; exact .base (.bl _)
  · rename_i e; rw [res_int r e]; exact .base (.int _)
  · rename_i e; rw [(res_str r e).1]; exact .base (.str _)
  · rename_i e
    obtain ⟨rfl, p, vs, rfl, h1, h2⟩ := res_tup r e
    rcases h1 with (h1 | ⟨o, h1⟩) | ⟨o, its, j, h1, h3, _⟩
    · exact .base (.tup h1)
    · exact .fTuple h1
    · exact .kTuple h1 h3
  · rename_i e
    obtain ⟨p, vs, rfl, h1, h2⟩ := res_lst rl r e
    exact .base (.lst h1)
  · rename_i e
    obtain ⟨p, vs, rfl, _, h2, h1⟩ := res_scr r e
    rcases h1 with ⟨o, h1⟩ | ⟨o, its, j, h1, h3, _⟩
    · exact .base (.frz h1)
    · exact .kList h1 h3
  · exact absurd rfl hn
theorem kit_int : ∀ n, kitB (tnStr n) "int" = some (tnIs .int n) := by intro n; cases n <;> decide +kernel
theorem kit_bool : ∀ n, kitB (tnStr n) "bool" = some (tnIs .bool n) := by intro n; cases n <;> decide +kernel
theorem kit_str : ∀ n, kitB (tnStr n) "str" = some (tnIs .str n) := by intro n; cases n <;> decide +kernel
theorem kit_tuple : ∀ n, kitB (tnStr n) "tuple" = some (tnIs .tuple n) := by intro n; cases n <;> decide +kernel
theorem kit_list : ∀ n, kitB (tnStr n) "list" = some (tnIs .list n) := by intro n; cases n <;> decide +kernel
theorem kit_dict : ∀ n, kitB (tnStr n) "dict" = some (tnIs .dict n) := by intro n; cases n <;> decide +kernel
theorem kit_seq {K : PySem.W.Frag} (n : Tn) : PySem.W.kitAny K (.type (tnStr n)) [.type "list", .type "tuple"] = some (tnIs .seq n) := by
  have h1 := kit_ty (K := K) (kit_list n)
  have h2 := kit_ty (K := K) (kit_tuple n)
  refine kitAny_cons h1 (fun e => kitAny_cons h2 (fun e2 => ?_) fun e2 => ?_) fun e => ?_
  · rw [kitAny_nil]
    cases n <;> first | rfl | (cases e; done) | (cases e2; done)
  · cases n <;> first | rfl | (cases e2; done)
  · cases n <;> first | rfl | (cases e; done)
/-- a value's type, dicts of tuples too -/
def TyY (K : PySem.W.Frag) (H : Hp) (x : V) (t : Value) : Prop := TyX K H x t ∨ (t = .type "dict" ∧ ∃ (a : Addr) (ob : Obj), x = .ref a ∧ H a = some (.ext fun h => h.get? a = some ob) ∧ ob.cls = .type "dict")
theorem ty_of {m : Nb} {L : Hl} {H : Hp} {v : V} {d : D} {n : Tn} (rl : RepL W m L H) (r : RepV W m L H v d) (h : tnOf L d = some n) : TyY W.K H v (.type (tnStr n)) := by
  by_cases hn : n = .dct
  · subst hn
    unfold tnOf at h
    split at h <;> cases h
    rename_i t ks vs e
    obtain ⟨p, kv, vv, rfl, h1, _⟩ := res_dct rl r e
    cases t with
    | false =>
      obtain ⟨kvs, h1, _⟩ := h1
      exact .inl (.base (.dK h1))
    | true =>
      obtain ⟨_, ob, _, _, h1, _, _, h2, _⟩ := h1
      exact .inr ⟨rfl, p, ob, rfl, h1, h2.1⟩
  · exact .inl (tn_of rl r h hn)
def rIsiY (K : PySem.W.Frag) : List V → Hp → VK → Prop := fun xs H Q => ∃ (x c : V) (t u : Value) (b : Bool), xs = [x, c] ∧ ClsV c u ∧ TyY K H x t ∧ PySem.W.kitOne K t u = some b ∧ Q (.bl b) H
theorem call_isiY : CallR X (.builtin "isinstance") (rIsiY X.K) := by
  intro pins s σ H xs us Q I r ⟨x, c, t, u, b, e1, k, ty, e, q⟩
  rcases ty with ty | ⟨rfl, a, ob, rfl, h1, h2⟩
  · exact call_isi pins s σ H xs us Q I r ⟨x, c, t, u, b, e1, k, ty, e, q⟩
  · subst e1
    obtain ⟨u1, u2, rfl, r1, r2⟩ := vals2 r
    cases (show u1 = Value.ref a from r1)
    have e2 := k.eq r2
    subst e2
    have hob : s.heap.get? a = some ob := (I.hok a _ h1).1
    exact PySem.W.kia_one PySem.W.kitx_dict I.kIn ⟨ob, hob, h2⟩ e (fun z => nomatch z) fun tk => ⟨.bl b, H, I.tok tk, rfl, q⟩
/-- .. of a tuple of classes that was just laid -/
def rIsiTY (K : PySem.W.Frag) : List V → Hp → VK → Prop := fun xs H Q => ∃ (x : V) (tp : Addr) (cs : List V) (t : Value) (us : List Value) (b : Bool), xs = [x, .ref tp] ∧ H tp = some (.tup cs) ∧ Paired ClsV cs us ∧ TyY K H x t ∧ PySem.W.kitAny K t us = some b ∧ Q (.bl b) H
theorem call_isiTY : CallR X (.builtin "isinstance") (rIsiTY X.K) := by
  intro pins s σ H xs us Q I r ⟨x, tp, cs, t, ws, b, e1, hT, k, ty, e, q⟩
  rcases ty with ty | ⟨rfl, a, ob, rfl, h1, h2⟩
  · exact call_isiT pins s σ H xs us Q I r ⟨x, tp, cs, t, ws, b, e1, hT, k, ty, e, q⟩
  · subst e1
    obtain ⟨u1, u2, rfl, r1, r2⟩ := vals2 r
    cases (show u1 = Value.ref a from r1)
    cases (show u2 = Value.ref tp from r2)
    have hob : s.heap.get? a = some ob := (I.hok a _ h1).1
    obtain ⟨_, its, rv, o, g1, g2, n, g3⟩ := (show ObjOk X.prog X.w H s.heap tp (.tup cs) from I.hok tp _ hT)
    have e3 := ClsV.all k rv
    subst e3
    obtain ⟨oc, od, dt, sl⟩ := o
    simp only at g2 g3
    subst g2 g3
    exact PySem.W.kia_tup PySem.W.kitx_dict I.kIn ⟨ob, hob, h2⟩ g1 e (fun z => nomatch z) fun tk => ⟨.bl b, H, I.tok tk, rfl, q⟩
def dIsi (t : Ty) (ta : TD) : TD := fun ds L Q => ta ds L fun x L1 => isTy t L1 x fun b => Q (.bl b) L1
theorem isi_one {ta : TD} {t : Ty} {x y : Str} {p p2 : Pos} {T : String} (G : Good Φ B E k Γ X) (hx : Γ.gl x = true) (hxe : x = Str.ofString "isinstance") (hy : Γ.gl y = true) (hm : X.mg y = none) (hv : bootBuiltins y = some (.type T)) (hk : ∀ n, kitB (tnStr n) T = some (tnIs t n)) (hc : ∀ c xs, t ≠ .cls c xs)
    (hs : starE e = false) (ha : DE X (wd X) B e ta) : DE X (wd X) B (.Call (.Name x p) [e, .Name y p2] [] pos) (dIsi t ta) := by
  obtain ⟨g1, g2, g3⟩ := G.gl hx
  obtain ⟨f1, f2, f3⟩ := G.gl hy
  have pa := pa_cons ha (pa_cons (pe_bltn (v := .ty T) (pos := p2) f1 hm hv rfl f3 f2) pa_nil) (star_of hs)
  refine peI (pe_callB call_isiY g1 (by rw [hxe]; exact G.blt _ (by decide +kernel)) (by rw [hxe]; decide +kernel) pa g3 g2 (star_of hs)) fun σ H Q ⟨m, L, ds, Qd, S, q, c⟩ => ?_
  refine ⟨m, L, ds, _, S, q, fun d L1 v m1 H1 q1 st1 rl1 r1 => ?_⟩
  have q1 : ∃ n, tnOf L1 d = some n ∧ Qd (.bl (tnIs t n)) L1 := by
    cases t with
    | cls c xs => exact absurd rfl (hc c xs)
    | _ => exact q1
  obtain ⟨n, e1, q1⟩ := q1
  exact ⟨v, .ty T, _, .type T, _, rfl, .ty T, ty_of rl1 r1 e1, kit_ty (hk n), c _ L1 _ m1 H1 q1 st1 rl1 (.bl _)⟩
theorem isi_seq {ta : TD} {x y z : Str} {p p2 p3 p4 : Pos} {j : Nat} (G : Good Φ B E k Γ X) (hx : Γ.gl x = true) (hxe : x = Str.ofString "isinstance") (hy : Γ.gl y = true) (hye : y = Str.ofString "list") (hz : Γ.gl z = true) (hze : z = Str.ofString "tuple")
    (hs : starE e = false) (ha : DE X (wd X) B e ta) : DE X (wd X) B (.Call (.Name x p) [e, .Tuple [.Name y p2, .Name z p3] j p4] [] pos) (dIsi .seq ta) := by
  obtain ⟨g1, g2, g3⟩ := G.gl hx
  obtain ⟨f1, f2, f3⟩ := G.gl hy
  obtain ⟨h1, h2, h3⟩ := G.gl hz
  have e1 : PE X (.Name y p2) (tC (.ty "list")) := pe_bltn (v := .ty "list") f1 (by rw [hye]; exact G.blt _ (by decide +kernel)) (u := .type "list") (by rw [hye]; decide +kernel) rfl f3 f2
  have e2 : PE X (.Name z p3) (tC (.ty "tuple")) := pe_bltn (v := .ty "tuple") h1 (by rw [hze]; exact G.blt _ (by decide +kernel)) (u := .type "tuple") (by rw [hze]; decide +kernel) rfl h3 h2
  have pa := pa_cons ha (pa_cons (pe_tup (x1 := j) (pos := p4) (pa_cons e1 (pa_cons e2 pa_nil))) pa_nil) (star_of hs)
  refine peI (pe_callB call_isiTY g1 (by rw [hxe]; exact G.blt _ (by decide +kernel)) (by rw [hxe]; decide +kernel) pa g3 g2 (star_of hs)) fun σ H Q ⟨m, L, ds, Qd, S, q, c⟩ => ?_
  refine ⟨m, L, ds, _, S, q, fun d L1 v m1 H1 q1 st1 rl1 r1 => ?_⟩
  have q1 : ∃ n, tnOf L1 d = some n ∧ Qd (.bl (tnIs .seq n)) L1 := q1
  obtain ⟨n, e1, q1⟩ := q1
  refine ⟨by show 2 ≤ sizeLine; decide, fun tp htp => ?_⟩
  exact ⟨v, tp, _, _, [.type "list", .type "tuple"], _, rfl, upd_same, .cons (.ty "list") (.cons (.ty "tuple") .nil), ty_of (rl1.laid htp) (r1.step (Step.laid htp)) e1, kit_seq n, c _ L1 _ m1 _ q1 (st1.trans (Step.laid htp)) (rl1.laid htp) (.bl _)⟩
/-! ### isinstance of an error that is kept -/
def rIsiE (W : Wd) : List V → Hp → VK → Prop := fun xs H Q => ∃ (a : Addr) (c : Str) (v : V) (u : Value) (C : Addr) (b : Bool), xs = [.ref a, v] ∧ ExcAt W H a c ∧ W.mg c = some (.ref C) ∧ ExcC W.K C ∧ (∀ w, RelV v w → w = u) ∧ PySem.W.kitOne W.K (.ref C) u = some b ∧ Q (.bl b) H
theorem call_isiE : CallR X (.builtin "isinstance") (rIsiE (wd X)) := by
  intro pins s σ H xs us Q I r ⟨a, c, v, u, C, b, e1, ex, hm, ec, hu, hk, q⟩
  subst e1
  obtain ⟨u1, u2, rfl, r1, r2⟩ := vals2 r
  cases (show u1 = Value.ref a from r1)
  have e2 := hu _ r2
  subst e2
  obtain ⟨C', hm', hH⟩ := ex
  rw [hm] at hm'
  cases hm'
  obtain ⟨o, fs, ho, hc, hd, hf⟩ := (I.hok a _ hH).1
  have J : PySem.W.InstAt s.heap a o C none := by
    obtain ⟨oc, od, oda, osl⟩ := o
    dsimp only at hc hd hf
    subst hc hd hf
    exact ⟨ho, rfl, rfl, trivial⟩
  exact PySem.W.kia_one (PySem.W.handS_kitx_exc ec.hg ec.hk ec.hs ec.hd ec.ha ec.hn ec.ht ec.hm) I.kIn J hk (fun z => nomatch z) fun tk => ⟨.bl b, H, I.tok tk, rfl, q⟩
theorem isi_cls {ta : TD} {x y : Str} {p p2 : Pos} (G : Good Φ B E k Γ X) (hx : Γ.gl x = true) (hxe : x = Str.ofString "isinstance") (hy : Γ.gl y = true) (hc : Γ.exi.contains y = true ∨ y = Str.ofString "ValueError")
    (hs : starE e = false) (ha : DE X (wd X) B e ta) : DE X (wd X) B (.Call (.Name x p) [e, .Name y p2] [] pos) (dIsi (.cls y Γ.exi) ta) := by
  obtain ⟨g1, g2, g3⟩ := G.gl hx
  obtain ⟨f1, f2, f3⟩ := G.gl hy
  have hv : ∃ (v : V) (u : Value), PE X (.Name y p2) (tC v) ∧ (∀ w, RelV v w → w = u) ∧ ∀ c ∈ Γ.exi, ∀ C, X.mg c = some (.ref C) → PySem.W.kitOne X.K (.ref C) u = some (exSub c y) := by
    rcases hc with hc | hc
    · have hc : y ∈ Γ.exi := by simpa using hc
      obtain ⟨D, hD, _⟩ := G.exi.cls y hc
      exact ⟨.ref D, .ref D, pe_glob f1 hD rfl f2, fun w r => r, fun c hcc C hC => (G.exi.rel c hcc y hc C D hC hD).2⟩
    · subst hc
      refine ⟨.ty "ValueError", .type "ValueError", pe_bltn (v := .ty "ValueError") f1 (G.blt _ (by decide +kernel)) (u := .type "ValueError") (by decide +kernel) rfl f3 f2, fun w r => r, fun c hcc C hC => ?_⟩
      obtain ⟨C', hC', _, h2⟩ := G.exi.cls c hcc
      rw [hC] at hC'
      cases hC'
      rw [h2]
      unfold exSub
      rw [show (decide ((Str.ofString "ValueError" : Str) = "ValueError")) = true from by decide +kernel, Bool.or_true, Bool.or_true]
  obtain ⟨v, u, hp, hu, hk⟩ := hv
  refine peI (pe_callB call_isiE g1 (by rw [hxe]; exact G.blt _ (by decide +kernel)) (by rw [hxe]; decide +kernel) (pa_cons ha (pa_cons hp pa_nil) (star_of hs)) g3 g2 (star_of hs)) fun σ H Q ⟨m, L, ds, Qd, S, q, c⟩ => ?_
  refine ⟨m, L, ds, _, S, q, fun d L1 v1 m1 H1 q1 st1 rl1 r1 => ?_⟩
  have q1 : isTy (.cls y Γ.exi) L1 d fun b => Qd (.bl b) L1 := q1
  unfold isTy at q1
  dsimp only at q1
  split at q1
  · rename_i c' _
    obtain ⟨hin, q1⟩ := q1
    cases r1 with
    | exc ex ap =>
      obtain ⟨C, hC, hH⟩ := id ex
      obtain ⟨C', hC', hE, _⟩ := G.exi.cls c' hin
      have hC : X.mg c' = some (.ref C) := hC
      rw [hC] at hC'
      cases hC'
      exact ⟨_, c', v, u, C, _, rfl, ex, hC, hE, hu, hk c' hin C hC, c _ L1 _ m1 H1 q1 st1 rl1 (.bl _)⟩
  · exact q1.elim
end
end Nr

/-! Calls of defs; new lists; what is walked. -/
namespace Nr
open PySem PySem.Spec PyProof.Rows L2
section
variable {Φ : Phi} {B : Option En} {E : XS} {k : Nat} {Γ : Gm} {X : Cx} {W : Wd} {e : Expr} {es : List Expr} {pos : Pos}
/-- the callee runs -/
theorem run_def {φ : List D → Hl → QE → XH → Prop} {fa : Addr} {fd : FuncData} {ps : List Str} {args : Args} {m : Nb} {L : Hl} {ds : Ds} {Qd : QE} {pins : List (Addr × Obj)} {σ : L2.St} {H : Hp} {s : Shared} {Q : VK} {us : List Value} {vs : List V} {xs : List D}
    (F : FnOk X.prog X.w X.K X.mg X.base (L2.CX X.prog X.w) k fa fd ps (lSp (wd X) φ)) (hr : Room k X.A) (tk : Takes X (lW (wd X) B E)) (hb : BindsTo s fd args (ps.zip us)) (I : Inv X pins σ H s) (S : Sit (wd X) B m L ds σ H) (r : Vals vs us) (rv : RepVs (wd X) m L H vs xs)
    (h : φ xs L Qd (xh E ds)) (c : ∀ d L' v m' H', Qd d L' → Step m L H m' L' H' → RepL (wd X) m' L' H' → RepV (wd X) m' L' H' v d → Q v H') : codeAny (model X.prog X.w) X.A (.call (.ref fa) args) (fun r s' => match r with | .ok (.ret u) => EP X pins σ Q u s' | .ok _ => False | .error e => X.xe e s') s := by
  have hs : lSp (wd X) φ vs H Q (fun cls d H' => lW (wd X) B E cls d σ H') :=
    ⟨m, L, xs, Qd, xh E ds, S.rl, rv, h, c, fun x L' cls m' H' he hc st rl => ⟨x, m', L', ds, hc, rfl, S.nx st rl, he⟩⟩
  refine codeAny_mono (F.run X.A X.stack s H args us vs Q _ hr I.env0 hb r hs) fun res s' hq => ?_
  cases res with
  | error x => exact tk x s' (XE.of_call I (fun _ _ _ z => z) hq)
  | ok fl => cases fl with
    | ret u => exact I.after hq
    | _ => exact hq.elim
theorem fn_len {φ : List D → Hl → QE → XH → Prop} {fa : Addr} {fd : FuncData} {ps : List Str} (F : FnOk X.prog X.w X.K X.mg X.base (L2.CX X.prog X.w) k fa fd ps (lSp (wd X) φ)) {m : Nb} {L : Hl} {H : Hp} {vs : List V} {xs : List D} {Qd : QE} {Ed : XH} (rl : RepL (wd X) m L H) (rv : RepVs (wd X) m L H vs xs) (h : φ xs L Qd Ed) : vs.length = ps.length :=
  F.len vs H (fun v H' => True) (fun _ _ _ => True) ⟨m, L, xs, Qd, Ed, rl, rv, h, fun _ _ _ _ _ _ _ _ _ => trivial, fun _ _ _ _ _ _ _ _ _ => trivial⟩
def dCall (Φ : Phi) (E : XS) (f : Str) (t : TDs) : TD := fun ds L Q => t ds L fun xs L1 => Φ f xs L1 Q (xh E ds)
theorem after_run {f : Value} {args : Args} {s : Shared} {Q : Value → Shared → Prop} (h : codeAny (model X.prog X.w) X.A (.call f args) (fun r s' => match r with | .ok (.ret u) => Q u s' | .ok _ => False | .error e => X.xe e s') s) : wpAny (model X.prog X.w) X.A (call f args.pos args.kw) Q X.xe s := by
  refine wpAny_call (codeAny_mono h fun r s' hq => ?_)
  cases r with
  | error x => exact hq
  | ok fl => cases fl with
    | ret u => exact hq
    | _ => exact hq.elim
theorem fin_call {f : Str} {fa : Addr} {us : List Value} {s1 : Shared} {vs : List V} {H H1 : Hp} {m m1 : Nb} {L L1 : Hl} {ds : Ds} {σ : L2.St} {xs : List D} {Qd : QE} {Q : VK} {pins : List (Addr × Obj)} (G : Good Φ B E k Γ X) (hm : X.mg f = some (.ref fa)) (S : Sit (wd X) B m L ds σ H) (I1 : Inv X pins σ H1 s1) (r : Vals vs us) (q1 : Φ f xs L1 Qd (xh E ds)) (st1 : Step m L H m1 L1 H1) (rl1 : RepL (wd X) m1 L1 H1) (rv : RepVs (wd X) m1 L1 H1 vs xs)
    (c : ∀ d L' v m' H', Qd d L' → Step m L H m' L' H' → RepL (wd X) m' L' H' → RepV (wd X) m' L' H' v d → Q v H') : wpAny (model X.prog X.w) X.A (call (.ref fa) us) (EP X pins σ Q) X.xe s1 := by
  obtain ⟨fa', fd, ps, hm', hk, F, hb, _⟩ := (G.call f xs L1 Qd _ q1).ok
  have hm' : X.mg f = some (.ref fa') := hm'
  rw [hm] at hm'
  cases hm'
  have hl := fn_len F rl1 rv q1
  exact after_run (args := ⟨us, []⟩) (run_def F G.room G.tk (hb s1 us I1.kIn (r.length.symm.trans hl)) I1 (S.nx st1 rl1) r rv q1 fun d L' v m' H' qd st rl rv => c d L' v m' H' qd (st1.trans st) rl rv)
theorem call0_ok {f : Str} {p : Pos} (G : Good Φ B E k Γ X) (hx : Γ.gl f = true) (hf : Γ.fns.contains f = true) : DE X (wd X) B (.Call (.Name f p) [] [] pos) (dCall Φ E f fun ds L Q => Q [] L) := by
  obtain ⟨g1, g2, g3⟩ := G.gl hx
  obtain ⟨fa, hm, hk⟩ := G.fns f (by simpa using hf)
  refine ⟨fun pins s σ H Q I ⟨m, L, ds, Qd, S, q, c⟩ => wpAny_Call_Name_kw (ld_glob I g1 hm (PySem.W.callWith_K0 I.kIn hk ?_) g2)⟩
  exact fin_call (us := []) G hm S I .nil q Step.refl S.rl .nil c
theorem call_ok {f : Str} {p : Pos} {t : TDs} (G : Good Φ B E k Γ X) (hx : Γ.gl f = true) (hf : Γ.fns.contains f = true) (hs : ((e :: es).all fun e => !starE e) = true) (ha : DA X (wd X) B (e :: es) t) : DE X (wd X) B (.Call (.Name f p) (e :: es) [] pos) (dCall Φ E f t) := by
  obtain ⟨g1, g2, g3⟩ := G.gl hx
  obtain ⟨fa, hm, hk⟩ := G.fns f (by simpa using hf)
  rw [List.all_cons, Bool.and_eq_true] at hs
  refine ⟨fun pins s σ H Q I ⟨m, L, ds, Qd, S, q, c⟩ => ?_⟩
  have hargs := ha.run pos pins s σ H (fun vs H1 => ∃ m1 L1 xs, Φ f xs L1 Qd (xh E ds) ∧ Step m L H m1 L1 H1 ∧ RepL (wd X) m1 L1 H1 ∧ RepVs (wd X) m1 L1 H1 vs xs) I ⟨m, L, ds, _, S, q, fun xs L1 vs m1 H1 q1 st1 rl1 rv => ⟨m1, L1, xs, q1, st1, rl1, rv⟩⟩
  refine wpAny_Call_Name_kw (ld_glob I g1 hm (PySem.W.callWith_K (h₀ := X.base) I.ok.mod.kin hk (thn hargs fun us s1 ⟨vs, H1, I1, r, m1, L1, xs, q1, st1, rl1, rv⟩ => ⟨I1.kIn, ?_⟩) (star_of (by simpa using hs.1)) (plain_args hs.2)) g2)
  exact fin_call G hm S I1 r q1 st1 rl1 rv c
/-! ### keywords -/
def lK (W : Wd) (B : Option En) (t : TDs) : TA := lA W B t
abbrev DK (X : Cx) (W : Wd) (B : Option En) (ks : List Keyword) (t : TDs) : Prop := L2.PK X ks (lA W B t)
theorem k_nil : DK X W B [] (fun _ L Q => Q [] L) := ⟨fun pos pins s σ H Q I ⟨m, L, ds, Qd, S, q, c⟩ => pk_nil.run pos pins s σ H Q I (c [] L [] m H q Step.refl S.rl .nil)⟩
theorem k_cons {t : TD} {u : TDs} {nm : Option Str} {kp : Pos} {ks : List Keyword} (h : DE X W B e t) (hr : DK X W B ks u) : DK X W B (⟨nm, e, kp⟩ :: ks) (fun ds L Q => t ds L fun x L1 => u ds L1 fun xs L2 => Q (x :: xs) L2) :=
  ⟨fun pos pins s σ H Q I ⟨m, L, ds, Qd, S, q, c⟩ => (pk_cons h hr).run pos pins s σ H Q I
    ⟨m, L, ds, _, S, q, fun x L1 v m1 H1 q1 st1 rl1 rv => ⟨m1, L1, ds, _, S.nx st1 rl1, q1, fun xs L2 vs m2 H2 q2 st2 rl2 rvs => c _ L2 _ m2 H2 q2 (st1.trans st2) rl2 (.cons (rv.step st2) rvs)⟩⟩⟩
theorem kw_names {env : Env} : ∀ (kws : List Keyword), (backToKw pos (keywordEach kws env)).filterMap (·.1) = kws.filterMap (·.arg)
  | [] => rfl
  | ⟨n, v, p⟩ :: r => by
    have ih := kw_names (env := env) r
    unfold backToKw at ih ⊢
    show List.filterMap _ ((n, _) :: List.map _ (keywordEach r env)) = _
    rw [List.filterMap_cons, List.filterMap_cons, ih]
theorem kw_all {env : Env} : ∀ (kws : List Keyword), (kws.all fun k => k.arg.isSome) = true → (backToKw pos (keywordEach kws env)).all (·.1.isSome) = true ∧ (backToKw pos (keywordEach kws env)).any (·.1.isNone) = false
  | [], _ => ⟨rfl, rfl⟩
  | ⟨n, v, p⟩ :: r, h => by
    rw [List.all_cons, Bool.and_eq_true] at h
    obtain ⟨i1, i2⟩ := kw_all (env := env) r h.2
    unfold backToKw at i1 i2 ⊢
    show List.all ((n, _) :: List.map _ (keywordEach r env)) _ = true ∧ List.any ((n, _) :: List.map _ (keywordEach r env)) _ = false
    rw [List.all_cons, List.any_cons, i1, i2]
    cases n with
    | none => exact absurd h.1 (fun z => by cases z)
    | some n => exact ⟨rfl, rfl⟩
theorem perm_rep {m : Nb} {L : Hl} {H : Hp} {vs : List V} {xs : List D} (r : RepVs W m L H vs xs) : ∀ perm : List Nat, RepVs W m L H (perm.filterMap fun i => vs[i]?) (permD perm xs)
  | [] => .nil
  | i :: perm => by
    unfold permD
    rw [List.filterMap_cons, List.filterMap_cons]
    have ih := perm_rep r perm
    unfold permD at ih
    cases e : xs[i]? with
    | none =>
      have : vs[i]? = none := by
        rw [List.getElem?_eq_none_iff] at e ⊢
        rw [r.length]; exact e
      rw [this]
      exact ih
    | some d =>
      obtain ⟨v, e2, h⟩ := r.getD e
      rw [e2]
      exact .cons h ih
theorem perm_vals {vs : List V} {us : List Value} (r : Vals vs us) : ∀ perm : List Nat, Vals (perm.filterMap fun i => vs[i]?) (perm.filterMap fun i => us[i]?)
  | [] => .nil
  | i :: perm => by
    rw [List.filterMap_cons, List.filterMap_cons]
    have ih := perm_vals r perm
    cases e : vs[i]? with
    | none => rw [r.none_of e]; exact ih
    | some v =>
      obtain ⟨u, e2, h⟩ := r.get e
      rw [e2]
      exact .cons h ih
def dCallK (Φ : Phi) (E : XS) (f : Str) (perm : List Nat) (n j : Nat) (t u : TDs) : TD := fun ds L Q => t ds L fun xs L1 => u ds L1 fun ys L2 => (xs.length = n ∧ ys.length = j) ∧ Φ f (permD perm (xs ++ ys)) L2 Q (xh E ds)
theorem names_len : ∀ {kws : List Keyword}, (kws.all fun k => k.arg.isSome) = true → (kws.filterMap (·.arg)).length = kws.length
  | [], _ => rfl
  | ⟨n, v, p⟩ :: r, h => by
    rw [List.all_cons, Bool.and_eq_true] at h
    cases n with
    | none => exact absurd h.1 (fun z => by cases z)
    | some n => rw [List.filterMap_cons]; exact congrArg (· + 1) (names_len h.2)
theorem fin_callK {f : Str} {fa : Addr} {us ws : List Value} {s1 : Shared} {vs zs : List V} {H H1 : Hp} {m m1 : Nb} {L L1 : Hl} {ds : Ds} {σ : L2.St} {xs ys : List D} {Qd : QE} {Q : VK} {pins : List (Addr × Obj)} {perm : List Nat} {ks : List Str} (G : Good Φ B E k Γ X) (hm : X.mg f = some (.ref fa)) (S : Sit (wd X) B m L ds σ H) (I1 : Inv X pins σ H1 s1) (r : Vals vs us) (rz : Vals zs ws)
    (hk : (f, xs.length, ks, perm) ∈ Γ.kws) (hl : ys.length = ks.length) (q1 : Φ f (permD perm (xs ++ ys)) L1 Qd (xh E ds)) (st1 : Step m L H m1 L1 H1) (rl1 : RepL (wd X) m1 L1 H1) (rv : RepVs (wd X) m1 L1 H1 vs xs) (rw' : RepVs (wd X) m1 L1 H1 zs ys)
    (c : ∀ d L' v m' H', Qd d L' → Step m L H m' L' H' → RepL (wd X) m' L' H' → RepV (wd X) m' L' H' v d → Q v H') : wpAny (model X.prog X.w) X.A (call (.ref fa) us (ks.zip ws)) (EP X pins σ Q) X.xe s1 := by
  obtain ⟨fa', fd, ps, hm', hk', F, _, hb⟩ := (G.call f _ L1 Qd _ q1).ok
  have hm' : X.mg f = some (.ref fa') := hm'
  rw [hm] at hm'
  cases hm'
  obtain ⟨hp, hp2, hb⟩ := hb _ _ _ hk
  exact after_run (args := ⟨us, ks.zip ws⟩) (run_def F G.room G.tk (hb s1 us ws I1.kIn (r.length.symm.trans rv.length) ((rz.length.symm.trans rw'.length).trans hl)) I1 (S.nx st1 rl1) (perm_vals (r.append rz) perm) (perm_rep (rv.append rw') perm) q1 fun d L' v m' H' qd st rl rv => c d L' v m' H' qd (st1.trans st) rl rv)
theorem callk_ok {f : Str} {p : Pos} {t u : TDs} {kws : List Keyword} {perm : List Nat} {n j : Nat} (G : Good Φ B E k Γ X) (hx : Γ.gl f = true) (hf : Γ.fns.contains f = true) (hs : (es.all fun e => !starE e) = true) (hall : (kws.all fun k => k.arg.isSome) = true) (hn : n = es.length) (hj : j = kws.length) (hk : (f, es.length, kws.filterMap (·.arg), perm) ∈ Γ.kws)
    (ha : DA X (wd X) B es t) (h0 : es = [] → t = fun ds L Q => Q [] L) (hu : DK X (wd X) B kws u) : DE X (wd X) B (.Call (.Name f p) es kws pos) (dCallK Φ E f perm n j t u) := by
  obtain ⟨g1, g2, g3⟩ := G.gl hx
  obtain ⟨fa, hm, hk'⟩ := G.fns f (by simpa using hf)
  subst hn hj
  refine ⟨fun pins s σ H Q I ⟨m, L, ds, Qd, S, q, c⟩ => ?_⟩
  obtain ⟨a1, a2⟩ := kw_all (pos := pos) (env := X.env) kws hall
  have hkw : ∀ (us : List Value) (s1 : Shared) (vs : List V) (H1 : Hp) (m1 : Nb) (L1 : Hl) (xs : List D), Inv X pins σ H1 s1 → Vals vs us → Step m L H m1 L1 H1 → RepL (wd X) m1 L1 H1 → RepVs (wd X) m1 L1 H1 vs xs →
      (u ds L1 fun ys L2 => (xs.length = es.length ∧ ys.length = kws.length) ∧ Φ f (permD perm (xs ++ ys)) L2 Qd (xh E ds)) →
      wpAny (model X.prog X.w) X.A (evalAll ((backToKw pos (keywordEach kws X.env)).map (·.2))) (fun ks s₂ => X.K.In s₂.heap ∧ wpAny (model X.prog X.w) X.A (call (.ref fa) us (((backToKw pos (keywordEach kws X.env)).filterMap (·.1)).zip ks)) (EP X pins σ Q) X.xe s₂) X.xe s1 := by
    intro us s1 vs H1 m1 L1 xs I1 r st1 rl1 rv q1
    refine thn (hu.run pos pins s1 σ H1 (fun zs H2 => ∃ m2 L2 ys, ((xs.length = es.length ∧ ys.length = kws.length) ∧ Φ f (permD perm (xs ++ ys)) L2 Qd (xh E ds)) ∧ Step m L H m2 L2 H2 ∧ RepL (wd X) m2 L2 H2 ∧ RepVs (wd X) m2 L2 H2 vs xs ∧ RepVs (wd X) m2 L2 H2 zs ys) I1
      ⟨m1, L1, ds, _, S.nx st1 rl1, q1, fun ys L2 zs m2 H2 q2 st2 rl2 rz => ⟨m2, L2, ys, q2, st1.trans st2, rl2, rv.step st2, rz⟩⟩) fun ws s2 ⟨zs, H2, I2, rz, m2, L2, ys, ⟨⟨l1, l2⟩, q2⟩, st2, rl2, rv2, rz2⟩ => ⟨I2.kIn, ?_⟩
    rw [kw_names]
    exact fin_callK G hm S I2 r rz (by rw [l1]; exact hk) (by rw [l2, names_len hall]) q2 st2 rl2 rv2 rz2 c
  cases es with
  | nil =>
    refine wpAny_Call_Name_kw (ld_glob I g1 hm (PySem.W.callWith_KW0 (h₀ := X.base) I.ok.mod.kin hk' a1 ?_ (by rw [a2]; rfl)) g2)
    rw [h0 rfl] at q
    exact hkw [] s [] H m L [] I .nil Step.refl S.rl .nil q
  | cons e es =>
    have hs' := hs
    rw [List.all_cons, Bool.and_eq_true] at hs
    have hargs := ha.run pos pins s σ H (fun vs H1 => ∃ m1 L1 xs, (u ds L1 fun ys L2 => (xs.length = (e :: es).length ∧ ys.length = kws.length) ∧ Φ f (permD perm (xs ++ ys)) L2 Qd (xh E ds)) ∧ Step m L H m1 L1 H1 ∧ RepL (wd X) m1 L1 H1 ∧ RepVs (wd X) m1 L1 H1 vs xs) I ⟨m, L, ds, _, S, q, fun xs L1 vs m1 H1 q1 st1 rl1 rv => ⟨m1, L1, xs, q1, st1, rl1, rv⟩⟩
    refine wpAny_Call_Name_kw (ld_glob I g1 hm (PySem.W.callWith_KW (h₀ := X.base) I.ok.mod.kin hk' a1 (thn hargs fun us s1 ⟨vs, H1, I1, r, m1, L1, xs, q1, st1, rl1, rv⟩ => ?_) ?_ (star_of (by simpa using hs.1))) g2)
    · exact hkw us s1 vs H1 m1 L1 xs I1 r st1 rl1 rv q1
    · rw [plain_args hs', a2]
      rfl
end
end Nr

/-! What is walked. -/
namespace Nr
open PySem PySem.Spec PyProof.Rows L2
/-- a later state: what is reserved may have changed -/
structure Wk (m : Nb) (L : Hl) (H : Hp) (m' : Nb) (L' : Hl) (H' : Hp) : Prop where
  hk : ∀ a o, H a = some o → Apart m L a → H' a = some o ∧ Apart m' L' a
  hl : L.length ≤ L'.length
  hi : ∀ i, i < L.length → m'.m i = m.m i
section
variable {W : Wd} {m m' m1 m2 : Nb} {L L' L1 L2 : Hl} {H H' H1 H2 : Hp}
theorem Step.wk (st : Step m L H m' L' H') : Wk m L H m' L' H' := ⟨fun a o e ap => ⟨st.keep a o e ap.1, st.apart (some_ne e) ap⟩, st.len, st.ids⟩
theorem Wk.refl : Wk m L H m L H := Step.refl.wk
theorem Wk.trans (a : Wk m L H m1 L1 H1) (b : Wk m1 L1 H1 m2 L2 H2) : Wk m L H m2 L2 H2 :=
  ⟨fun x o e ap => b.hk x o (a.hk x o e ap).1 (a.hk x o e ap).2, Nat.le_trans a.hl b.hl, fun i hi => (b.hi i (Nat.lt_of_lt_of_le hi a.hl)).trans (a.hi i hi)⟩
theorem Wk.updR {p : Addr} {o : HO} (hp : p ∈ m.r) : Wk m L H m L (upd H p o) :=
  ⟨fun a x e ap => ⟨by
    have ne : a ≠ p := fun z => ap.2 (by rw [z]; exact hp)
    rw [upd_ne ne]; exact e, ap⟩, Nat.le_refl _, fun _ _ => rfl⟩
theorem RepV.wk (k : Wk m L H m' L' H') {v : V} {d : D} (h : RepV W m L H v d) : RepV W m' L' H' v d := h.renum k.hk k.hl k.hi
theorem RepVs.wk (k : Wk m L H m' L' H') {v : List V} {d : List D} (h : RepVs W m L H v d) : RepVs W m' L' H' v d := h.renum k.hk k.hl k.hi
theorem Wk.rd (k : Wk m L H m' L' H') {a : Addr} {u : HO} (h : Rd H a u) (ap : Apart m L a) : Rd H' a u := by
  rcases h with h | ⟨o, h⟩
  · exact .inl (k.hk a _ h ap).1
  · exact .inr ⟨o, (k.hk a _ h ap).1⟩
/-- the reserved list changes -/
theorem RepL.updR {p : Addr} {o : HO} (r : RepL W m L H) (hp : p ∈ m.r) : RepL W m L (upd H p o) := by
  refine ⟨fun i x e => ?_, r.inj, fun a z n => ?_, r.nr⟩
  · cases x with
    | dead => trivial
    | _ => exact (r.ob i _ e).renum (Wk.updR hp).hk (Nat.le_refl _) (fun _ _ => rfl) fun u h => by
            have ne : m.m i ≠ p := fun z => r.nr i ⟨_, e, trivial⟩ (by rw [z]; exact hp)
            rw [upd_ne ne]
            exact h
  · by_cases e : a = p
    · rw [e, upd_same] at n; cases n
    · rw [upd_ne e] at n; exact r.res a z n
theorem Step.updR {p : Addr} {o : HO} (st : Step m L H m' L' H') (hp : H p = none) : Step m L H m' L' (upd H' p o) where
  len := st.len
  ids := st.ids
  rs := st.rs
  live := st.live
  keep := fun a x e ap => by rw [upd_ne (ne_of_none e hp)]; exact st.keep a x e ap
  there := fun a n => by
    by_cases e : a = p
    · rw [e, upd_same] at n; cases n
    · rw [upd_ne e] at n; exact st.there a n
  new := st.new
end
/-- the iterator J tells the items of s, from a state on -/
structure Walk (W : Wd) (m : Nb) (L : Hl) (H : Hp) (J : It) (s : Src) : Prop where
  go : ∀ (i : Nat) (d : D) (m1 : Nb) (L1 : Hl) (H1 : Hp), s.items[i]? = some d → Wk m L H m1 L1 H1 → RepL W m1 L1 H1 → s.ok L1 → J.go i H1 ∧ ∀ x H2, J.yld i H1 x H2 → Nx W m1 L1 H1 H2 ∧ RepV W m1 L1 H2 x d
  stop : ∀ (m1 : Nb) (L1 : Hl) (H1 : Hp), Wk m L H m1 L1 H1 → RepL W m1 L1 H1 → s.ok L1 → J.stop s.items.length H1
abbrev TDi := Ds → Hl → (Src → Hl → Prop) → Prop
def lI (W : Wd) (B : Option En) (t : TDi) : TI := fun σ H R => ∃ (m : Nb) (L : Hl) (ds : Ds) (Qd : Src → Hl → Prop), Sit W B m L ds σ H ∧ t ds L Qd ∧
  ∀ s L' m' H' J, Qd s L' → Step m L H m' L' H' → RepL W m' L' H' → Walk W m' L' H' J s → R J H'
abbrev DI (X : Cx) (W : Wd) (B : Option En) (tg it : Expr) (t : TDi) : Prop := PI X tg it (lI W B t)
section
variable {Φ : Phi} {B : Option En} {E : XS} {k : Nat} {Γ : Gm} {X : Cx} {W : Wd} {e tg : Expr} {es : List Expr} {pos : Pos}
theorem piI {t t' : TI} (h : PI X tg e t) (c : ∀ σ H R, t' σ H R → t σ H R) : PI X tg e t' := ⟨fun pins s σ H R I q => h.run pins s σ H R I (c σ H R q)⟩
/-- a list or a tuple, by its value -/
def iSeq (K : PySem.W.Frag) (tl : TE) : TI := fun σ H R => tl σ H fun x H1 => ∃ a, x = .ref a ∧ (((∃ xs, SqL K H1 a xs) ∧ R (Itl K a) H1) ∨ ((∃ xs, SqT K H1 a xs) ∧ R (Itt K a) H1))
theorem pi_seq {tl : TE} (hl : PE X e tl) : PI X tg e (iSeq X.K tl) := by
  refine ⟨fun pins s σ H R I h => thn (hl.run pins s σ H _ I h) fun v s1 ⟨x, H1, I1, r1, a, ex, q⟩ => ?_⟩
  subst ex
  cases r1
  have fp : ∀ b ∈ [s1.heap.objs.size], FpOk X pins H1 b := fun b hb => by
    have z : b = s1.heap.objs.size := by simpa using hb
    rw [z]; exact I1.fpOk (Nat.le_refl _) (I1.hok.fresh (Nat.le_refl _))
  rcases q with ⟨⟨xs, hq⟩, q⟩ | ⟨⟨xs, hq⟩, q⟩
  · obtain ⟨its, rv, p, _⟩ := I1.list hq
    exact wpAny_pyIter_list p.isList ⟨_, [s1.heap.objs.size], _, _, H1, rfl, I1.kept (t' := s1.toks) (fun b o z => Heap.get?_push_of_some _ z), turn_list a _, ⟨_, Heap.get?_push_size _ rfl, rfl, rfl⟩, fp, q⟩
  · obtain ⟨its, rv, p, _⟩ := I1.tuple hq
    exact wpAny_pyIter_tuple (show s1.heap.IsTuple a its.toArray from p) ⟨_, [s1.heap.objs.size], _, _, H1, rfl, I1.kept (t' := s1.toks) (fun b o z => Heap.get?_push_of_some _ z), turn_tuple a _, ⟨_, Heap.get?_push_size _ rfl, rfl, rfl⟩, fp, q⟩
theorem walk_list {m : Nb} {L : Hl} {H : Hp} {a : Addr} {vs : List V} {s : Src} (h : ∀ m1 L1 H1, Wk m L H m1 L1 H1 → RepL W m1 L1 H1 → s.ok L1 → ∃ vs, SqL W.K H1 a vs ∧ RepVs W m1 L1 H1 vs s.items) : Walk W m L H (Itl W.K a) s where
  go := fun i d m1 L1 H1 e st rl ok => by
    obtain ⟨vs, h1, h2⟩ := h m1 L1 H1 st rl ok
    obtain ⟨v, h3, h4⟩ := h2.getD e
    refine ⟨⟨vs, v, h1, h3⟩, fun x H2 y => ?_⟩
    obtain ⟨e1, e2⟩ := y
    subst e1
    have := e2 vs h1
    rw [h3] at this
    cases this
    exact ⟨Nx.refl rl, h4⟩
  stop := fun m1 L1 H1 st rl ok => by
    obtain ⟨vs, h1, h2⟩ := h m1 L1 H1 st rl ok
    exact ⟨vs, h1, by rw [h2.length]; exact Nat.le_refl _⟩
theorem walk_tup {m : Nb} {L : Hl} {H : Hp} {a : Addr} {vs : List V} {s : Src} (h : ∀ m1 L1 H1, Wk m L H m1 L1 H1 → RepL W m1 L1 H1 → s.ok L1 → ∃ vs, SqT W.K H1 a vs ∧ RepVs W m1 L1 H1 vs s.items) : Walk W m L H (Itt W.K a) s where
  go := fun i d m1 L1 H1 e st rl ok => by
    obtain ⟨vs, h1, h2⟩ := h m1 L1 H1 st rl ok
    obtain ⟨v, h3, h4⟩ := h2.getD e
    refine ⟨⟨vs, v, h1, h3⟩, fun x H2 y => ?_⟩
    obtain ⟨e1, e2⟩ := y
    subst e1
    have := e2 vs h1
    rw [h3] at this
    cases this
    exact ⟨Nx.refl rl, h4⟩
  stop := fun m1 L1 H1 st rl ok => by
    obtain ⟨vs, h1, h2⟩ := h m1 L1 H1 st rl ok
    exact ⟨vs, h1, by rw [h2.length]; exact Nat.le_refl _⟩
theorem seq_later {m m1 : Nb} {L L1 : Hl} {H H1 : Hp} {v : V} {ds : List D} (st : Wk m L H m1 L1 H1) : RepV W m L H v (.tup ds) → ∃ a vs, v = .ref a ∧ SqT W.K H1 a vs ∧ RepVs W m1 L1 H1 vs ds
  | .tup h r ap => ⟨_, _, rfl, .inl (st.rd h ap), r.wk st⟩
  | .tupK h r => ⟨_, _, rfl, .inr h, r.wk st⟩
def dSeq (t : TD) : TDi := fun ds L Q => t ds L fun x L1 => srcK L1 x fun s => Q s L1
theorem i_seq {t : TD} (h : DE X (wd X) B e t) : DI X (wd X) B tg e (dSeq t) := piI (pi_seq h) fun σ H R ⟨m, L, ds, Qd, S, q, c⟩ => ⟨m, L, ds, _, S, q, fun d L' v m' H' q' st rl r => by
  unfold srcK at q'
  cases r with
  | tup h r ap =>
    refine ⟨_, rfl, .inr ⟨⟨_, .inl h⟩, c _ L' m' H' _ q' st rl (walk_tup (vs := []) fun m1 L1 H1 st1 rl1 _ => ?_)⟩⟩
    exact ⟨_, .inl (st1.rd h ap), r.wk st1⟩
  | tupK h r =>
    refine ⟨_, rfl, .inr ⟨⟨_, .inr h⟩, c _ L' m' H' _ q' st rl (walk_tup (vs := []) fun m1 L1 H1 st1 rl1 _ => ?_)⟩⟩
    exact ⟨_, .inr h, r.wk st1⟩
  | lst h r ap =>
    refine ⟨_, rfl, .inl ⟨⟨_, SqL.of h⟩, c _ L' m' H' _ q' st rl (walk_list (vs := []) fun m1 L1 H1 st1 rl1 _ => ?_)⟩⟩
    exact ⟨_, SqL.of (st1.hk _ _ h ap).1, r.wk st1⟩
  | scr h r ap =>
    refine ⟨_, rfl, .inl ⟨⟨_, .inl (.inr ⟨_, h⟩)⟩, c _ L' m' H' _ q' st rl (walk_list (vs := []) fun m1 L1 H1 st1 rl1 _ => ?_)⟩⟩
    exact ⟨_, .inl (.inr ⟨_, (st1.hk _ _ h ap).1⟩), r.wk st1⟩
  | scrK h r =>
    refine ⟨_, rfl, .inl ⟨⟨_, .inr h⟩, c _ L' m' H' _ q' st rl (walk_list (vs := []) fun m1 L1 H1 st1 rl1 _ => ?_)⟩⟩
    exact ⟨_, .inr h, r.wk st1⟩
  | obj hi =>
    rename_i i
    dsimp only at q'
    split at q'
    · rename_i xs e1
      obtain ⟨vs, h1, h2⟩ := rl.ob _ _ e1
      refine ⟨_, rfl, .inl ⟨⟨_, SqL.of h1⟩, c _ L' m' H' _ q' st rl (walk_list (vs := []) fun m1 L1 H1 st1 rl1 ok => ?_)⟩⟩
      have ok : L1[i]? = some (.lst xs) := ok
      obtain ⟨vs1, g1, g2⟩ := rl1.ob _ _ ok
      rw [st1.hi i hi] at g1
      exact ⟨vs1, SqL.of g1, g2⟩
    · exact q'.elim
  | _ => exact q'.elim⟩

/-! ### ranges -/
abbrev TDr := Ds → Hl → (Int → Int → Hl → Prop) → Prop
def dR1 (tb : TD) : TDr := fun ds L Q => tb ds L fun y L1 => (match y with
    | .int j => Q 0 j L1
    | _ => False)
def dR2 (ta tb : TD) : TDr := fun ds L Q => ta ds L fun x L1 => tb ds L1 fun y L2 => (match x, y with
    | .int i, .int j => Q i j L2
    | _, _ => False)
def dRng (t : TDr) : TDi := fun ds L Q => t ds L fun i j L1 => (smallR i ∧ smallR j) ∧ Q (.fixed (rngD i j)) L1
theorem rngD_get {a b : Int} {i : Nat} {d : D} (h : (rngD a b)[i]? = some d) : i < (b - a).toNat ∧ d = .int (a + (i : Nat)) := by
  unfold rngD at h
  rw [List.getElem?_map] at h
  by_cases hi : i < (b - a).toNat
  · rw [List.getElem?_range hi] at h
    cases h
    exact ⟨hi, rfl⟩
  · rw [List.getElem?_eq_none (by simpa using hi)] at h
    cases h
theorem rngD_len {a b : Int} : (rngD a b).length = (b - a).toNat := by simp [rngD]
theorem walk_rng {m : Nb} {L : Hl} {H : Hp} {a b : Int} : Walk W m L H (Itr a (b - a).toNat) (.fixed (rngD a b)) where
  go := fun i d m1 L1 H1 e st rl _ => by
    obtain ⟨hi, rfl⟩ := rngD_get e
    refine ⟨hi, fun x H2 y => ?_⟩
    obtain ⟨e1, e2⟩ := y
    subst e1 e2
    exact ⟨Nx.refl rl, .int _⟩
  stop := fun m1 L1 H1 st rl _ => by
    show (b - a).toNat ≤ _
    rw [show (Src.fixed (rngD a b)).items = rngD a b from rfl, rngD_len]
    exact Nat.le_refl _
theorem i_rng1 {x : Str} {p : Pos} {t : TD} (G : Good Φ B E k Γ X) (hx : Γ.gl x = true) (hxe : x = Str.ofString "range") (hs : starE e = false) (h : DE X (wd X) B e t) : DI X (wd X) B tg (.Call (.Name x p) [e] [] pos) (dRng (dR1 t)) := by
  subst hxe
  exact piI (pi_range1 (G.gl hx).1 (G.blt _ (by decide +kernel)) (pa_cons h pa_nil (star_of hs)) (star_of hs)) fun σ H R ⟨m, L, ds, Qd, S, q, c⟩ => ⟨m, L, ds, _, S, q, fun d L' v m' H' q' st rl r => by
    cases r with
    | int j =>
      refine ⟨j, rfl, q'.1.2.1, q'.1.2.2, ?_⟩
      have w := walk_rng (W := wd X) (m := m') (L := L') (H := H') (a := 0) (b := j)
      rw [Int.sub_zero] at w
      exact c _ L' m' H' _ q'.2 st rl w
    | _ => exact q'.elim⟩
theorem i_rng2 {x : Str} {p : Pos} {f : Expr} {t u : TD} (G : Good Φ B E k Γ X) (hx : Γ.gl x = true) (hxe : x = Str.ofString "range") (hs : starE e = false) (hs2 : starE f = false) (h : DE X (wd X) B e t) (h2 : DE X (wd X) B f u) : DI X (wd X) B tg (.Call (.Name x p) [e, f] [] pos) (dRng (dR2 t u)) := by
  subst hxe
  exact piI (pi_range2 (G.gl hx).1 (G.blt _ (by decide +kernel)) (pa_cons h (pa_cons h2 pa_nil (star_of hs2)) (star_of hs)) (by rw [star_of hs, star_of hs2]; rfl) (star_of hs2)) fun σ H R ⟨m, L, ds, Qd, S, q, c⟩ =>
    ⟨m, L, ds, _, S, q, fun d L1 v m1 H1 q1 st1 rl1 r1 => ⟨m1, L1, ds, _, S.nx st1 rl1, q1, fun d2 L2 v2 m2 H2 q2 st2 rl2 r2 => by
    cases r1 with
    | int i => cases r2 with
      | int j => exact ⟨i, j, rfl, ⟨q2.1.1.1, q2.1.1.2, q2.1.2.1, q2.1.2.2⟩, c _ L2 m2 H2 _ q2.2 (st1.trans st2) rl2 walk_rng⟩
      | _ => exact q2.elim
    | _ => exact q2.elim⟩⟩

/-! ### enumerate, zip -/
theorem enumD_len : ∀ (n : Nat) (xs : List D), (enumD n xs).length = xs.length
  | _, [] => rfl
  | n, x :: xs => congrArg (· + 1) (enumD_len (n + 1) xs)
theorem enumD_get : ∀ {n : Nat} {xs : List D} {i : Nat} {d : D}, (enumD n xs)[i]? = some d → ∃ x, xs[i]? = some x ∧ d = .tup [.int ((n + i : Nat) : Int), x]
  | _, [], _, _, h => by simp [enumD] at h
  | n, x :: xs, 0, d, h => by
    simp [enumD] at h
    exact ⟨x, rfl, by rw [← h]; rfl⟩
  | n, x :: xs, i + 1, d, h => by
    obtain ⟨y, h1, h2⟩ := enumD_get (n := n + 1) (xs := xs) (i := i) (d := d) (by simpa [enumD] using h)
    exact ⟨y, by simpa using h1, by rw [h2, show n + 1 + i = n + (i + 1) by omega]⟩
theorem zipD_get : ∀ {xs ys : List D} {i : Nat} {d : D}, (zipD xs ys)[i]? = some d → ∃ x y, xs[i]? = some x ∧ ys[i]? = some y ∧ d = .tup [x, y]
  | [], _, _, _, h => by simp [zipD] at h
  | _ :: _, [], _, _, h => by simp [zipD] at h
  | x :: xs, y :: ys, 0, d, h => by
    simp [zipD] at h
    exact ⟨x, y, rfl, rfl, h.symm⟩
  | x :: xs, y :: ys, i + 1, d, h => by
    obtain ⟨x', y', h1, h2, h3⟩ := zipD_get (xs := xs) (ys := ys) (i := i) (d := d) (by simpa [zipD] using h)
    exact ⟨x', y', by simpa using h1, by simpa using h2, h3⟩
theorem zipD_len : ∀ (xs ys : List D), (zipD xs ys).length = min xs.length ys.length
  | [], ys => by simp [zipD]
  | x :: xs, [] => by simp [zipD]
  | x :: xs, y :: ys => by simp [zipD, zipD_len xs ys]
/-- lists that stand still, walked in pairs -/
theorem rep_pair {m : Nb} {L : Hl} {H : Hp} {T : Addr} {v u : V} {x y : D} (rl : RepL W m L H) (hT : H T = none) (r1 : RepV W m L H v x) (r2 : RepV W m L H u y) : Nx W m L H (upd H T (.tup [v, u])) ∧ RepV W m L (upd H T (.tup [v, u])) (.ref T) (.tup [x, y]) :=
  ⟨Nx.laid rl hT, rep_tup rl hT (.cons r1 (.cons r2 .nil))⟩
theorem walk_enum {m : Nb} {L : Hl} {H : Hp} {a : Addr} {xs : List D} (h : ∀ m1 L1 H1, Wk m L H m1 L1 H1 → RepL W m1 L1 H1 → ∃ vs, SqL W.K H1 a vs ∧ RepVs W m1 L1 H1 vs xs) : Walk W m L H (Ite W.K a) (.fixed (enumD 0 xs)) where
  go := fun i d m1 L1 H1 e st rl ok => by
    obtain ⟨vs, h1, h2⟩ := h m1 L1 H1 st rl
    obtain ⟨x, hx, rfl⟩ := enumD_get e
    obtain ⟨v, h3, h4⟩ := h2.getD hx
    refine ⟨⟨vs, v, h1, h3⟩, fun w H2 y => ?_⟩
    obtain ⟨T, v', e1, hT, e2, e3⟩ := y
    subst e1 e2
    have := e3 vs h1
    rw [h3] at this
    cases this
    rw [Nat.zero_add]
    exact rep_pair rl hT (.int _) h4
  stop := fun m1 L1 H1 st rl ok => by
    obtain ⟨vs, h1, h2⟩ := h m1 L1 H1 st rl
    exact ⟨vs, h1, by rw [show (Src.fixed (enumD 0 xs)).items = enumD 0 xs from rfl, enumD_len, h2.length]; exact Nat.le_refl _⟩
theorem walk_zip {m : Nb} {L : Hl} {H : Hp} {a b : Addr} {xs ys : List D} (h : ∀ m1 L1 H1, Wk m L H m1 L1 H1 → RepL W m1 L1 H1 → ∃ vs us, SqL W.K H1 a vs ∧ SqL W.K H1 b us ∧ RepVs W m1 L1 H1 vs xs ∧ RepVs W m1 L1 H1 us ys) : Walk W m L H (Itz W.K a b) (.fixed (zipD xs ys)) where
  go := fun i d m1 L1 H1 e st rl ok => by
    obtain ⟨vs, us, h1, h2, r1, r2⟩ := h m1 L1 H1 st rl
    obtain ⟨x, y, hx, hy, rfl⟩ := zipD_get e
    obtain ⟨v, h3, h4⟩ := r1.getD hx
    obtain ⟨u, h5, h6⟩ := r2.getD hy
    refine ⟨⟨vs, us, v, u, h1, h2, h3, h5⟩, fun w H2 y => ?_⟩
    obtain ⟨T, v', u', e1, hT, e2, e3, e4⟩ := y
    subst e1 e2
    have g3 := e3 vs h1
    have g4 := e4 us h2
    rw [h3] at g3
    rw [h5] at g4
    cases g3
    cases g4
    exact rep_pair rl hT h4 h6
  stop := fun m1 L1 H1 st rl ok => by
    obtain ⟨vs, us, h1, h2, r1, r2⟩ := h m1 L1 H1 st rl
    refine ⟨vs, us, h1, h2, ?_⟩
    have e1 := r1.length
    have e2 := r2.length
    rw [show (Src.fixed (zipD xs ys)).items = zipD xs ys from rfl, zipD_len]
    omega
theorem walk_zipT {m : Nb} {L : Hl} {H : Hp} {a b : Addr} {xs ys : List D} (h : ∀ m1 L1 H1, Wk m L H m1 L1 H1 → RepL W m1 L1 H1 → ∃ vs us, SqT W.K H1 a vs ∧ SqT W.K H1 b us ∧ RepVs W m1 L1 H1 vs xs ∧ RepVs W m1 L1 H1 us ys) : Walk W m L H (RZ.ItzT W.K a b) (.fixed (zipD xs ys)) where
  go := fun i d m1 L1 H1 e st rl ok => by
    obtain ⟨vs, us, h1, h2, r1, r2⟩ := h m1 L1 H1 st rl
    obtain ⟨x, y, hx, hy, rfl⟩ := zipD_get e
    obtain ⟨v, h3, h4⟩ := r1.getD hx
    obtain ⟨u, h5, h6⟩ := r2.getD hy
    refine ⟨⟨vs, us, v, u, h1, h2, h3, h5⟩, fun w H2 y => ?_⟩
    obtain ⟨T, v', u', e1, hT, e2, e3, e4⟩ := y
    subst e1 e2
    have g3 := e3 vs h1
    have g4 := e4 us h2
    rw [h3] at g3
    rw [h5] at g4
    cases g3
    cases g4
    exact rep_pair rl hT h4 h6
  stop := fun m1 L1 H1 st rl ok => by
    obtain ⟨vs, us, h1, h2, r1, r2⟩ := h m1 L1 H1 st rl
    refine ⟨vs, us, h1, h2, ?_⟩
    have e1 := r1.length
    have e2 := r2.length
    rw [show (Src.fixed (zipD xs ys)).items = zipD xs ys from rfl, zipD_len]
    omega
def dZip (t u : TD) : TDi := fun ds L Q => t ds L fun x L1 => u ds L1 fun y L2 => (match x, y with
    | .tup xs, .tup ys => Q (.fixed (zipD xs ys)) L2
    | .lst xs, .lst ys => Q (.fixed (zipD xs ys)) L2
    | _, _ => False)
theorem lst_later {m m1 : Nb} {L L1 : Hl} {H H1 : Hp} {v : V} {ds : List D} (st : Wk m L H m1 L1 H1) : RepV W m L H v (.lst ds) → ∃ a vs, v = .ref a ∧ SqL W.K H1 a vs ∧ RepVs W m1 L1 H1 vs ds
  | .lst h r ap => ⟨_, _, rfl, SqL.of (st.hk _ _ h ap).1, r.wk st⟩
theorem ref_of_tup {m : Nb} {L : Hl} {H : Hp} {v : V} {ds : List D} : RepV W m L H v (.tup ds) → ∃ a, v = .ref a
  | .tup _ _ _ => ⟨_, rfl⟩
  | .tupK _ _ => ⟨_, rfl⟩
theorem ref_of_lst {m : Nb} {L : Hl} {H : Hp} {v : V} {ds : List D} : RepV W m L H v (.lst ds) → ∃ a, v = .ref a
  | .lst _ _ _ => ⟨_, rfl⟩
theorem i_zip {x : Str} {p tp : Pos} {f : Expr} {t u : TD} {el : List Expr} {kk : Nat} (G : Good Φ B E k Γ X) (hx : Γ.gl x = true) (hxe : x = Str.ofString "zip") (hs : starE e = false) (hs2 : starE f = false) (h : DE X (wd X) B e t) (h2 : DE X (wd X) B f u) :
    DI X (wd X) B (.Tuple el kk tp) (.Call (.Name x p) [e, f] [] pos) (dZip t u) := by
  subst hxe
  refine piI (RZ.pi_zipA (G.gl hx).1 (G.blt _ (by decide +kernel)) (pa_cons h (pa_cons h2 pa_nil (star_of hs2)) (star_of hs)) (star_of hs) (plain_args (by simp [hs2]))) fun σ H R ⟨m, L, ds, Qd, S, q, c⟩ =>
    ⟨m, L, ds, _, S, q, fun d L1 v m1 H1 q1 st1 rl1 r1 => ⟨m1, L1, ds, _, S.nx st1 rl1, q1, fun d2 L2 v2 m2 H2 q2 st2 rl2 r2 => ?_⟩⟩
  have r1' := r1.step st2
  split at q2
  · obtain ⟨a, rfl⟩ := ref_of_tup r1'
    obtain ⟨b, rfl⟩ := ref_of_tup r2
    obtain ⟨a', vs, ea, g1, g2⟩ := seq_later Wk.refl r1'
    cases ea
    obtain ⟨b', us, eb, g3, g4⟩ := seq_later Wk.refl r2
    cases eb
    refine ⟨a, b, vs, us, rfl, .inr ⟨g1, g3, c _ L2 m2 H2 _ q2 (st1.trans st2) rl2 (walk_zipT fun m3 L3 H3 st3 rl3 => ?_)⟩⟩
    obtain ⟨a', vs', ea, f1, f2⟩ := seq_later st3 r1'
    cases ea
    obtain ⟨b', us', eb, f3, f4⟩ := seq_later st3 r2
    cases eb
    exact ⟨vs', us', f1, f3, f2, f4⟩
  · obtain ⟨a, rfl⟩ := ref_of_lst r1'
    obtain ⟨b, rfl⟩ := ref_of_lst r2
    obtain ⟨a', vs, ea, g1, g2⟩ := lst_later Wk.refl r1'
    cases ea
    obtain ⟨b', us, eb, g3, g4⟩ := lst_later Wk.refl r2
    cases eb
    refine ⟨a, b, vs, us, rfl, .inl ⟨g1, g3, c _ L2 m2 H2 _ q2 (st1.trans st2) rl2 (walk_zip fun m3 L3 H3 st3 rl3 => ?_)⟩⟩
    obtain ⟨a', vs', ea, f1, f2⟩ := lst_later st3 r1'
    cases ea
    obtain ⟨b', us', eb, f3, f4⟩ := lst_later st3 r2
    cases eb
    exact ⟨vs', us', f1, f3, f2, f4⟩
  · exact q2.elim
end
end Nr

/-! enumerate of a tuple. -/
namespace Nr
open PySem PySem.Spec PyProof.Rows L2
theorem enum_newB {v : Value} {o : Obj} {H : Heap → Prop} (B : Begins v o H) :
    Meets (Builtin.«enumerate.__new__» ⟨[.type "enumerate", v], []⟩) (fun _ R s => H s.heap ∧
      R (.ok (.ret (.ref (s.heap.push o).objs.size))) { s with heap := (s.heap.push o).push { cls := .type "enumerate", data := .fields #[.none, .bool false, .ref s.heap.objs.size, rawInt 0, .none, .none] } }) := by
  refine .of_wp fun P w A R s z => ?_
  obtain ⟨hp, gs, dr, tk, os⟩ := s
  obtain ⟨z1, z⟩ := z
  have sube := sub_enumerate
  have bg : ∀ {A' : Around} {E : Value → Shared → Prop} {Q : Value → Shared → Prop}, Q (.ref hp.objs.size) ⟨hp.push o, gs, dr, tk, os⟩ → wpAny (model P w) A' (pyIter v) Q E ⟨hp, gs, dr, tk, os⟩ := fun y => B.iter P w _ _ ⟨hp, gs, dr, tk, os⟩ _ z1 y
  wp_walk using bg
  refine wpAny_stack_any fun sk => wpAny_pure ?_
  split
  · rename_i cl _ _ _ _ _
    cases (cl == Value.type "enumerate") <;> (wp_walk using bg; exact ⟨_, rfl, z⟩)
  · wp_walk using bg
    exact ⟨_, rfl, z⟩
theorem enum_call {P : Program} {w : World} {A : Around} {E : Value → Shared → Prop} {s : Shared} {v : Value} {o : Obj} {H : Heap → Prop} {Q : Value → Shared → Prop} (B : Begins v o H) (h1 : H s.heap)
    (h : ∀ h', IsEnum h' (s.heap.objs.size + 1) s.heap.objs.size 0 .none → h'.get? s.heap.objs.size = some o → (∀ b u, s.heap.get? b = some u → h'.get? b = some u) → Q (.ref (s.heap.objs.size + 1)) { s with heap := h' }) :
    wpAny (model P w) A (call (.type "enumerate") [v]) Q E s := by
  refine callType_new F.called_enumerate (by decide) (F.typeCall_enumerate_1 _) (F.newCall_enumerate_1 _) (fun ob => F.args_object_init_2 ob _) F.entry_enumerate_new (enum_newB B) ⟨h1, ?_⟩
  have z : (s.heap.push o).objs.size = s.heap.objs.size + 1 := Heap.size_push ..
  show _ ∧ _
  rw [z]
  have g : IsEnum ((s.heap.push o).push { cls := .type "enumerate", data := .fields #[.none, .bool false, .ref s.heap.objs.size, rawInt 0, .none, .none] }) (s.heap.objs.size + 1) s.heap.objs.size 0 .none := by
    have y := Heap.get?_push_size (s.heap.push o) (o := { cls := .type "enumerate", data := .fields #[.none, .bool false, .ref s.heap.objs.size, rawInt 0, .none, .none] }) rfl
    rw [z] at y
    exact y
  exact ⟨⟨_, g, rfl⟩, h _ g (Heap.get?_push_of_some _ (Heap.get?_push_size _ B.free)) fun b u y => Heap.get?_push_of_some _ (Heap.get?_push_of_some _ y)⟩
def IteT (K : PySem.W.Frag) (a : Addr) : It :=
  ⟨fun i H => ∃ (xs : List V) (x : V), SqT K H a xs ∧ xs[i]? = some x, fun i H v H' => ∃ q x, v = .ref q ∧ H q = none ∧ H' = upd H q (.tup [.int (i : Nat), x]) ∧ ∀ xs, SqT K H a xs → xs[i]? = some x, fun i H => ∃ xs : List V, SqT K H a xs ∧ xs.length = i⟩
theorem turn_enumT {P : Program} {w : World} {K : PySem.W.Frag} {el : List Expr} {kk : Nat} {tp : Pos} (a e it : Addr) :
    Turn P w K (.Tuple el kk tp) (IteT K a) [e, it] e (fun i h => (∃ old, IsEnum h e it ((i : Nat) : Int) old) ∧ h.IsTupleIter it a i ∧ e ≠ it) where
  mem := List.mem_cons_self
  obj := fun i h st b hb => by
    obtain ⟨⟨old, en⟩, ⟨u, hu, uc, ud⟩, _⟩ := st
    rcases List.mem_cons.mp hb with z | z
    · rw [z]; exact ⟨_, en, fun v q => nomatch q⟩
    · rw [List.mem_singleton.mp z]; exact ⟨u, hu, fun v q => by rw [ud] at q; cases q⟩
  keep := fun i h h' st k => ⟨⟨st.1.choose, k e (by simp) _ st.1.choose_spec⟩, st.2.1.at fun o q => k it (by simp) o q, st.2.2⟩
  item := by
    intro X eP ew eK hc i pins s σ H E I hf st hg
    subst eP ew eK
    obtain ⟨⟨old, en⟩, ti, ne⟩ := st
    obtain ⟨xs, x, hq, hx⟩ := hg
    obtain ⟨its, rv, p, hz⟩ := I.tuple hq
    obtain ⟨u, hu, ru⟩ := rv.get hx
    have le : e < s.heap.objs.size := Heap.lt_size en
    have li : it < s.heap.objs.size := by obtain ⟨_, y, _⟩ := ti; exact Heap.lt_size y
    have na : a ≠ it := fun z => by
      obtain ⟨o1, y1, c1, _⟩ := id p
      obtain ⟨o2, y2, c2, _⟩ := id ti
      rw [z] at y1
      rw [y1] at y2
      cases y2
      rw [c1] at c2
      injection c2 with c3
      exact absurd c3 (by decide)
    have nea : e ≠ a := fun z => by
      obtain ⟨o1, y1, c1, _⟩ := id p
      have y2 := en
      unfold IsEnum at y2
      rw [z, y1] at y2
      cases y2
      injection c1 with c3
      exact absurd c3 (by decide)
    have hi : i < its.toArray.size := by
      have := (List.getElem?_eq_some_iff.mp hu).1
      simpa using this
    have D := Draws.tuple (prog := X.prog) (w := X.w) (A := X.A.in1) (I.ok.hd hc) it a na its.toArray
    refine wpAny_pyNext_enum_itemC D en ⟨ti, p⟩ hi ne (by simp [ne, nea]) fun x' h' tk px out st' hT hsz hk => ?_
    have ex : x' = u := by
      have y : its.toArray[i]? = some x' := px
      rw [← Array.getElem?_toList] at y
      rw [show its.toArray.toList = its from rfl, hu] at y
      cases y
      rfl
    subst ex
    refine ⟨_, rfl, wpAny_letOwnedTupleGo_enum (s := { s with heap := h', toks := tk + 1 }) out fun h2 en2 sb => ?_⟩
    have hT2 : h2.get? s.heap.objs.size = some { cls := .type "tuple", data := .seq #[.int i tk, x'] } := (sb.2 _ (Nat.ne_of_gt le)).trans hT
    have nw : ObjOk X.prog X.w (upd H s.heap.objs.size (.tup [.int (i : Nat), x])) h2 s.heap.objs.size (.tup [.int (i : Nat), x]) :=
      ⟨show 2 ≤ sizeLine by decide, [.int i tk, x'], .cons ⟨_, rfl⟩ (.cons ru .nil), ⟨_, hT2, rfl, _, rfl⟩⟩
    have J : Inv X pins σ (upd H s.heap.objs.size (.tup [.int (i : Nat), x])) { s with heap := h2, toks := tk + 1 } :=
      I.turnedNew (ch := [e, it]) (fun b ob hb q => (sb.2 b (fun z => hb (by simp [z]))).trans (hk b ob (fun z => hb (by simp [z])) (fun z => hb (by simp [z])) q)) hf (Nat.le_refl _) nw
    refine ⟨.ref s.heap.objs.size, _, J, rfl, ⟨_, x, rfl, I.hok.fresh (Nat.le_refl _), rfl, fun ys hy => by rw [I.tuple_inj hy hq]; exact hx⟩, ⟨⟨x', ?_⟩, st'.1.at fun o q => (sb.2 it (Ne.symm ne)).trans q, ne⟩, fun b hb => ?_⟩
    · have z : ((i + 1 : Nat) : Int) = (i : Int) + 1 := by omega
      rw [z]
      exact en2
    · have lb : b < s.heap.objs.size := by
        rcases List.mem_cons.mp hb with z | z
        · rw [z]; exact le
        · rw [List.mem_singleton.mp z]; exact li
      rw [upd_ne (Nat.ne_of_lt lb)]
      exact (hf b hb).1
  done := by
    intro X eP ew eK hc i pins s σ H E I hf st hg
    subst eP ew eK
    obtain ⟨⟨old, en⟩, ti, ne⟩ := st
    obtain ⟨xs, hq, hx⟩ := hg
    obtain ⟨its, rv, p, hz⟩ := I.tuple hq
    obtain ⟨f0, f1, f2, f3, f4, f5⟩ := hf it (by simp)
    have na : a ≠ it := fun z => by
      obtain ⟨o1, y1, c1, _⟩ := id p
      obtain ⟨o2, y2, c2, _⟩ := id ti
      rw [z] at y1
      rw [y1] at y2
      cases y2
      rw [c1] at c2
      injection c2 with c3
      exact absurd c3 (by decide)
    have D := Draws.tuple (prog := X.prog) (w := X.w) (A := X.A.in1) (I.ok.hd hc) it a na its.toArray
    have ei : i = its.toArray.size := by
      rw [List.size_toArray, ← rv.length]
      exact hx.symm
    refine wpAny_pyNext_enum_endD D en ⟨by rw [← ei]; exact ti, p⟩ fun h' eb => ⟨rfl, I.turned (t' := s.toks) (fun b o hb q => eb b o hb q) f0 f1 f3 f4 f5⟩
  self := by
    intro A i s Q E st h
    obtain ⟨⟨old, en⟩, _⟩ := st
    exact wpAny_pyIter_enum en h
def iEnumA (K : PySem.W.Frag) (ta : TA) : TI := fun σ H R => ta σ H fun vs H1 => ∃ a, vs = [.ref a] ∧ (((∃ xs, SqL K H1 a xs) ∧ R (Ite K a) H1) ∨ ((∃ xs, SqT K H1 a xs) ∧ R (IteT K a) H1))
theorem pi_enumA {X : Cx} {e : Expr} {ta : TA} {p pos tp : Pos} {el : List Expr} {kk : Nat} (hg : Gl X "enumerate") (hm : X.mg "enumerate" = none) (ha : PA X [e] ta) (hs : starEach [e] X.env = [(false, eval e X.env)]) :
    PI X (.Tuple el kk tp) (.Call (.Name "enumerate" p) [e] [] pos) (iEnumA X.K ta) := by
  refine ⟨fun pins s σ H R I h => Call_ (ld_blt I hg hm boot_enumerate (PyProof.Rows.callWith_type1 (thn (ha.run pos pins s σ H _ I h) fun us s1 ⟨vs, H1, I1, r1, a, ex, q⟩ => ?_) hs rfl))⟩
  subst ex
  obtain ⟨u, rfl, r⟩ := r1.one
  cases r
  have fp : ∀ b ∈ [s1.heap.objs.size + 1, s1.heap.objs.size], FpOk X pins H1 b := fun b hb => by
    have lb : s1.heap.objs.size ≤ b := by
      rcases List.mem_cons.mp hb with z | z
      · rw [z]; exact Nat.le_succ _
      · rw [List.mem_singleton.mp z]; exact Nat.le_refl _
    exact I1.fpOk lb (I1.hok.fresh lb)
  rcases q with ⟨⟨xs, hq⟩, q⟩ | ⟨⟨xs, hq⟩, q⟩
  · obtain ⟨its, rv, pl, hz⟩ := I1.list hq
    refine enum_call (begins_list a its.toArray) pl.isList fun h' en it k => wpAny_pyIter_enum en ?_
    exact ⟨_, _, _, _, H1, rfl, I1.kept (t' := s1.toks) k, turn_enum a _ _, ⟨⟨.none, en⟩, ⟨_, it, rfl, rfl⟩, Nat.succ_ne_self _⟩, fp, q⟩
  · obtain ⟨its, rv, pl, hz⟩ := I1.tuple hq
    refine enum_call (begins_tuple a its.toArray) pl fun h' en it k => wpAny_pyIter_enum en ?_
    exact ⟨_, _, _, _, H1, rfl, I1.kept (t' := s1.toks) k, turn_enumT a _ _, ⟨⟨.none, en⟩, ⟨_, it, rfl, rfl⟩, Nat.succ_ne_self _⟩, fp, q⟩
section
variable {Φ : Phi} {B : Option En} {E : XS} {k : Nat} {Γ : Gm} {X : Cx} {W : Wd} {e tg : Expr} {pos : Pos}
theorem walk_enumT {m : Nb} {L : Hl} {H : Hp} {a : Addr} {xs : List D} (h : ∀ m1 L1 H1, Wk m L H m1 L1 H1 → RepL W m1 L1 H1 → ∃ vs, SqT W.K H1 a vs ∧ RepVs W m1 L1 H1 vs xs) : Walk W m L H (IteT W.K a) (.fixed (enumD 0 xs)) where
  go := fun i d m1 L1 H1 e st rl ok => by
    obtain ⟨vs, h1, h2⟩ := h m1 L1 H1 st rl
    obtain ⟨x, hx, rfl⟩ := enumD_get e
    obtain ⟨v, h3, h4⟩ := h2.getD hx
    refine ⟨⟨vs, v, h1, h3⟩, fun w H2 y => ?_⟩
    obtain ⟨q, v', e1, hT, e2, e3⟩ := y
    subst e1 e2
    have := e3 vs h1
    rw [h3] at this
    cases this
    rw [Nat.zero_add]
    exact rep_pair rl hT (.int _) h4
  stop := fun m1 L1 H1 st rl ok => by
    obtain ⟨vs, h1, h2⟩ := h m1 L1 H1 st rl
    exact ⟨vs, h1, by rw [show (Src.fixed (enumD 0 xs)).items = enumD 0 xs from rfl, enumD_len, h2.length]⟩
def dEnum (t : TD) : TDi := fun ds L Q => t ds L fun x L1 => (match x with
    | .tup xs => Q (.fixed (enumD 0 xs)) L1
    | .lst xs => Q (.fixed (enumD 0 xs)) L1
    | _ => False)
theorem i_enum {x : Str} {p tp : Pos} {t : TD} {el : List Expr} {kk : Nat} (G : Good Φ B E k Γ X) (hx : Γ.gl x = true) (hxe : x = Str.ofString "enumerate") (hs : starE e = false) (h : DE X (wd X) B e t) :
    DI X (wd X) B (.Tuple el kk tp) (.Call (.Name x p) [e] [] pos) (dEnum t) := by
  subst hxe
  refine piI (pi_enumA (G.gl hx).1 (G.blt _ (by decide +kernel)) (pa_cons h pa_nil (star_of hs)) (star_of hs)) fun σ H R ⟨m, L, ds, Qd, S, q, c⟩ => ⟨m, L, ds, _, S, q, fun d L1 v m1 H1 q1 st1 rl1 r1 => ?_⟩
  split at q1
  · obtain ⟨a, rfl⟩ := ref_of_tup r1
    obtain ⟨a', vs, ea, g1, g2⟩ := seq_later Wk.refl r1
    cases ea
    refine ⟨a, rfl, .inr ⟨⟨vs, g1⟩, c _ L1 m1 H1 _ q1 st1 rl1 (walk_enumT fun m3 L3 H3 st3 rl3 => ?_)⟩⟩
    obtain ⟨a', vs', ea, f1, f2⟩ := seq_later st3 r1
    cases ea
    exact ⟨vs', f1, f2⟩
  · obtain ⟨a, rfl⟩ := ref_of_lst r1
    obtain ⟨a', vs, ea, g1, g2⟩ := lst_later Wk.refl r1
    cases ea
    refine ⟨a, rfl, .inl ⟨⟨vs, g1⟩, c _ L1 m1 H1 _ q1 st1 rl1 (walk_enum fun m3 L3 H3 st3 rl3 => ?_)⟩⟩
    obtain ⟨a', vs', ea, f1, f2⟩ := lst_later st3 r1
    cases ea
    exact ⟨vs', f1, f2⟩
  · exact q1.elim
end
end Nr

/-! Targets; comprehensions. -/
namespace Nr
open PySem PySem.Spec PyProof.Rows L2
/-- σ' is σ but for the slots sl -/
def ButSl (sl : List Nat) (σ σ' : _root_.L2.St) : Prop := (∀ j, j ∉ sl → σ'[j]? = σ[j]?) ∧ σ'.length = σ.length
def lG (W : Wd) (B : Option En) (sl : List Nat) (t : D → Ds → (Ds → Prop) → Prop) : TG := fun v σ H Q => ∃ (m : Nb) (L : Hl) (ds : Ds) (d : D) (P : Ds → Prop), Sit W B m L ds σ H ∧ RepV W m L H v d ∧ t d ds P ∧
  ∀ ds' σ', P ds' → Sit W B m L ds' σ' H → ButSl sl σ σ' → Q σ' H
def lGs (W : Wd) (B : Option En) (sl : List Nat) (t : List D → Ds → (Ds → Prop) → Prop) : TGs := fun vs σ H Q => ∃ (m : Nb) (L : Hl) (ds : Ds) (xs : List D) (P : Ds → Prop), Sit W B m L ds σ H ∧ RepVs W m L H vs xs ∧ t xs ds P ∧
  ∀ ds' σ', P ds' → Sit W B m L ds' σ' H → ButSl sl σ σ' → Q σ' H
section
variable {Φ : Phi} {B : Option En} {E : XS} {k : Nat} {Γ : Gm} {X : Cx} {W : Wd} {e tg : Expr} {es : List Expr} {pos : Pos}
theorem pgI {t t' : TG} (h : PG X tg t) (c : ∀ v σ H Q, t' v σ H Q → t v σ H Q) : PG X tg t' := ⟨fun pins s σ H v u Q I r q => h.run pins s σ H v u Q I r (c v σ H Q q)⟩
theorem pgsI {t t' : TGs} (h : PGs X es t) (c : ∀ v σ H Q, t' v σ H Q → t v σ H Q) : PGs X es t' := ⟨fun pins s σ H v u Q I r q => h.run pins s σ H v u Q I r (c v σ H Q q)⟩
theorem pg_both {t t' : TG} (h : PG X tg t) (h' : PG X tg t') : PG X tg (fun v σ H Q => t v σ H Q ∨ t' v σ H Q) := ⟨fun pins s σ H v u Q I r q => q.elim (h.run pins s σ H v u Q I r) (h'.run pins s σ H v u Q I r)⟩
theorem Good.loc (G : Good Φ B E k Γ X) {i : Nat} {x : Str} (h : Γ.loc i x = true) : X.N[i]? = some x ∧ L2.Loc X.env.scope x ∧ (X.fn x = true ∨ X.env.scope.names.lookup x = some .local) := by
  obtain ⟨h1, h3⟩ := b2 h
  obtain ⟨h1, h2⟩ := b2 h1
  refine ⟨by rw [G.N]; exact of_decide_eq_true h1, ?_, G.fn x h3 h2⟩
  unfold L2.Loc
  rw [G.sc]
  exact isLoc_of h2
theorem Good.ndX (G : Good Φ B E k Γ X) : X.N.Nodup := by rw [G.N]; exact G.nd
theorem assignEach_plain {env : Env} : ∀ (gs : IGs) (es : List Expr), chkGs Γ gs es = true → (assignEach es env).length = es.length ∧ (assignEach es env).findIdx? (·.1) = none ∧ ∀ e ∈ es, starE e = false
  | .nil, es, h => by
    cases es with
    | nil => exact ⟨rfl, rfl, fun e h => nomatch h⟩
    | cons e es => simp [chkGs] at h
  | .cons g gs, es, h => by
    cases es with
    | nil => simp [chkGs] at h
    | cons e es =>
      simp only [chkGs, Bool.and_eq_true] at h
      obtain ⟨i1, i2, i3⟩ := assignEach_plain (env := env) gs es h.2
      have he : starE e = false := by
        cases g <;> cases e <;> first | rfl | (simp [chkG] at h; done)
      have ha : assignEach (e :: es) env = (false, assign e env) :: assignEach es env := by cases e <;> first | rfl | cases he
      rw [ha]
      refine ⟨by simp [i1], ?_, fun z hz => ?_⟩
      · rw [List.findIdx?_cons, i2]
        rfl
      · rcases List.mem_cons.mp hz with rfl | hz
        · exact he
        · exact i3 z hz
mutual
theorem semG_ex : ∀ (g : IG) (d : D) (ds : Ds) (K : Ds → Prop), semG g d ds K → ∃ ds1, K ds1
  | .n i, d, ds, K, h => ⟨_, by simpa [semG] using h⟩
  | .t gs, d, ds, K, h => by
    unfold semG at h
    split at h
    · exact semGs_ex gs _ ds K h
    · exact semGs_ex gs _ ds K h
    · exact h.elim
theorem semGs_ex : ∀ (gs : IGs) (xs : List D) (ds : Ds) (K : Ds → Prop), semGs gs xs ds K → ∃ ds1, K ds1
  | .nil, [], ds, K, h => ⟨ds, by simpa [semGs] using h⟩
  | .nil, _ :: _, ds, K, h => by simp [semGs] at h
  | .cons g gs, [], ds, K, h => by simp [semGs] at h
  | .cons g gs, x :: xs, ds, K, h => by
    obtain ⟨ds1, h1⟩ := semG_ex g x ds _ (by simpa only [semGs] using h)
    exact semGs_ex gs xs ds1 K h1
end
theorem gs_len : ∀ (gs : IGs) (es : List Expr) (xs : List D) (ds : Ds) (P : Ds → Prop), chkGs Γ gs es = true → semGs gs xs ds P → xs.length = es.length
  | .nil, [], [], ds, P, h, q => rfl
  | .nil, [], _ :: _, ds, P, h, q => by simp [semGs] at q
  | .nil, _ :: _, xs, ds, P, h, q => by simp [chkGs] at h
  | .cons g gs, [], xs, ds, P, h, q => by simp [chkGs] at h
  | .cons g gs, e :: es, [], ds, P, h, q => by simp [semGs] at q
  | .cons g gs, e :: es, x :: xs, ds, P, h, q => by
    simp only [chkGs, Bool.and_eq_true] at h
    obtain ⟨ds1, h1⟩ := semG_ex g x ds _ (by simpa only [semGs] using q)
    exact congrArg (· + 1) (gs_len gs es xs ds1 P h.2 h1)
mutual
theorem g_ok (G : Good Φ B E k Γ X) : ∀ (g : IG) (tg : Expr), chkG Γ g tg = true → PG X tg (lG (wd X) B g.slots (semG g))
  | .n i, tg, h => by
    cases tg <;> first | (simp [chkG] at h; done) | skip
    rename_i x p
    have h : Γ.loc i x = true := by simpa [chkG] using h
    obtain ⟨h1, h2, h3⟩ := G.loc h
    refine pgI (pg_name (i := i) G.ndX h1 h2 h3) fun v σ H Q ⟨m, L, ds, d, P, S, r, q, c⟩ => ?_
    exact c _ _ (by simpa [semG] using q) (S.set r) ⟨fun j hj => List.getElem?_set_ne (fun e => hj (by simp [IG.slots, e])), by simp⟩
  | .t gs, tg, h => by
    cases tg <;> first | (simp [chkG] at h; done) | skip
    rename_i es kk p
    have h : chkGs Γ gs es = true := by simpa [chkG] using h
    obtain ⟨i1, i2, _⟩ := assignEach_plain (env := X.env) gs es h
    refine pgI (pg_both (pg_tup (n := es.length) G.calm (gs_ok G gs es h) i1 i2) (pg_unl (n := es.length) G.calm (gs_ok G gs es h) i1 i2)) fun v σ H Q ⟨m, L, ds, d, P, S, r, q, c⟩ => ?_
    unfold semG at q
    split at q
    · rename_i xs
      obtain ⟨a, vs, rfl, h1, h2⟩ := seq_later Wk.refl r
      have hl : xs.length = es.length := gs_len gs es xs ds P h q
      exact .inl ⟨a, vs, rfl, h1, by rw [h2.length, hl], m, L, ds, xs, P, S, h2, q, c⟩
    · rename_i xs
      obtain ⟨a, vs, rfl, h1, h2⟩ := lst_later Wk.refl r
      have hl : xs.length = es.length := gs_len gs es xs ds P h q
      exact .inr ⟨a, vs, rfl, h1, by rw [h2.length, hl], m, L, ds, xs, P, S, h2, q, c⟩
    · exact q.elim
theorem gs_ok (G : Good Φ B E k Γ X) : ∀ (gs : IGs) (es : List Expr), chkGs Γ gs es = true → PGs X es (lGs (wd X) B gs.slots (semGs gs))
  | .nil, es, h => by
    cases es with
    | nil =>
      refine pgsI pgs_nil fun v σ H Q ⟨m, L, ds, xs, P, S, r, q, c⟩ => ?_
      cases r with
      | nil => exact ⟨rfl, c ds σ (by simpa [semGs] using q) S ⟨fun _ _ => rfl, rfl⟩⟩
      | cons r t => simp [semGs] at q
    | cons e es => simp [chkGs] at h
  | .cons g gs, es, h => by
    cases es with
    | nil => simp [chkGs] at h
    | cons e es =>
      have hh := h
      simp only [chkGs, Bool.and_eq_true] at h
      have he : starE e = false := (assignEach_plain (env := X.env) (.cons g gs) (e :: es) hh).2.2 e List.mem_cons_self
      have ha : (assignEach (e :: es) X.env).map (·.2) = assign e X.env :: (assignEach es X.env).map (·.2) := by cases e <;> first | rfl | cases he
      refine pgsI (pgs_cons (g_ok G g e h.1) (gs_ok G gs es h.2) ha) fun v σ H Q ⟨m, L, ds, xs, P, S, r, q, c⟩ => ?_
      cases r with
      | nil => simp [semGs] at q
      | cons r t =>
        refine ⟨_, _, rfl, m, L, ds, _, _, S, r, (by simpa [semGs] using q), fun ds1 σ1 q1 S1 b1 => ⟨m, L, ds1, _, P, S1, t, q1, fun ds2 σ2 q2 S2 b2 => c ds2 σ2 q2 S2 ⟨fun j hj => ?_, b2.2.trans b1.2⟩⟩⟩
        have hj' : j ∉ g.slots ++ gs.slots := by simpa [IGs.slots] using hj
        rw [List.mem_append, not_or] at hj'
        rw [b2.1 j hj'.2, b1.1 j hj'.1]
end
end
end Nr

/-! List comprehensions. -/
namespace Nr
open PySem PySem.Spec PyProof.Rows L2
abbrev TDt := Ds → Hl → (Bool → Hl → Prop) → Prop
def lIf (W : Wd) (B : Option En) (t : TDt) : TT := fun σ H Q => ∃ (m : Nb) (L : Hl) (ds : Ds) (Qd : Bool → Hl → Prop), Sit W B m L ds σ H ∧ t ds L Qd ∧
  ∀ b L' m' H', Qd b L' → Step m L H m' L' H' → RepL W m' L' H' → Q b H'
section
variable {W : Wd} {m m' m1 m2 : Nb} {L L' L1 L2 : Hl} {H H' H1 H2 : Hp} {p : Addr} {xs : List D} {B : Option En} {ds : Ds} {σ : _root_.L2.St}
/-! ### slots wiped -/
theorem wipeD_length (ds : Ds) : ∀ vs : List Nat, (wipeD ds vs).length = ds.length
  | [] => rfl
  | v :: vs => by unfold wipeD; rw [List.length_set, wipeD_length ds vs]
theorem wipeD_some {i : Nat} {d : D} : ∀ {vs : List Nat}, (wipeD ds vs)[i]? = some (some d) → ds[i]? = some (some d) ∧ i ∉ vs
  | [], h => ⟨h, fun z => nomatch z⟩
  | v :: vs, h => by
    unfold wipeD at h
    by_cases e : v = i
    · subst e
      rw [List.getElem?_set] at h
      simp at h
    · rw [List.getElem?_set_ne e] at h
      obtain ⟨h1, h2⟩ := wipeD_some h
      exact ⟨h1, fun z => (List.mem_cons.mp z).elim (fun z => e z.symm) h2⟩
theorem wipe_in {i : Nat} : ∀ {vs : List Nat}, i ∈ vs → (wipe σ vs)[i]? = if i < σ.length then some none else none
  | [], h => nomatch h
  | v :: vs, h => by
    unfold wipe
    by_cases e : v = i
    · subst e
      rw [List.getElem?_set, if_pos rfl, wipe_length]
    · rw [List.getElem?_set_ne e]
      exact wipe_in ((List.mem_cons.mp h).elim (fun z => absurd z.symm e) id)
theorem wipe_but {sl vs : List Nat} {σ σ' : _root_.L2.St} (hs : ∀ i ∈ sl, i ∈ vs) (b : ButSl sl (wipe σ vs) σ') : wipe σ' vs = wipe σ vs := by
  refine List.ext_getElem? fun i => ?_
  have hl : σ'.length = σ.length := b.2.trans (wipe_length _ _)
  by_cases hi : i ∈ vs
  · rw [wipe_in hi, wipe_in hi, hl]
  · rw [wipe_out hi, b.1 i fun z => hi (hs i z)]
theorem Sit.wipe (S : Sit W B m L ds σ H) (k : Wk m L H m' L' H') (rl : RepL W m' L' H') (vs : List Nat) : Sit W none m' L' (wipeD ds vs) (wipe σ vs) H' :=
  ⟨rl, by rw [wipeD_length, wipe_length]; exact S.ln, fun i d e => by
    obtain ⟨e1, e2⟩ := wipeD_some e
    obtain ⟨v, h, r⟩ := S.rs i d e1
    exact ⟨v, by rw [wipe_out e2]; exact h, r.wk k⟩, fun _ e => nomatch e⟩
/-! ### the list that is made -/
theorem NewAt.go (n : NewAt W m L H m1 L1 H1 p xs) (st : Step m1 L1 H1 m2 L2 H2) (rl : RepL W m2 L2 H2) : NewAt W m L H m2 L2 H2 p xs := by
  obtain ⟨vs, h1, h2⟩ := n.at_
  exact ⟨n.r0, n.st.trans st, rl, n.fr, st.apn (some_ne h1) n.nm, st.rs.1 _ n.nr, vs, st.keep _ _ h1 n.nm, h2.step st⟩
theorem NewAt.pre {m0 : Nb} {L0 : Hl} {H0 : Hp} (n : NewAt W m L H m1 L1 H1 p xs) (r0 : RepL W m0 L0 H0) (st : Step m0 L0 H0 m L H) : NewAt W m0 L0 H0 m1 L1 H1 p xs :=
  ⟨r0, st.trans n.st, n.rl, st.there _ n.fr, n.nm, n.nr, n.at_⟩
theorem NewAt.app {y : D} {v : V} {vs : List V} (n : NewAt W m L H m1 L1 H1 p xs) (h1 : H1 p = some (.lst vs)) (h2 : RepVs W m1 L1 H1 vs xs) (r : RepV W m1 L1 H1 v y) : NewAt W m L H m1 L1 (upd H1 p (.lst (vs ++ [v]))) p (xs ++ [y]) :=
  ⟨n.r0, n.st.updR n.fr, n.rl.updR n.nr, n.fr, n.nm, n.nr, _, upd_same, (h2.append (.one r)).wk (Wk.updR n.nr)⟩
/-! ### the loop -/
theorem lc_of {ti : TDi} {g : IG} {tif : TDt} {te : TD} {own : List Nat} {Q : VK} (hs : ∀ i ∈ g.slots, i ∈ own)
    (h : lF W B (fun ds L Q => ti ds L fun s L1 => lcR s (fun x L2 k => semG g x (wipeD ds own) fun ds2 => tif ds2 L2 fun b L3 => if b = true then te ds2 L3 fun y L4 => k (some y) L4 else k none L3) Q s.items [] L1) σ H Q) :
    tLc (lI W B ti) (lG W none g.slots (semG g)) (lIf W none tif) (lE W none te) own σ H Q := by
  obtain ⟨m, L, ds, Qd, S, q, c⟩ := h
  refine ⟨m, L, ds, _, S, q, fun s L1 m1 H1 J q1 st1 rl1 wk D hD => ?_⟩
  refine ⟨fun i n H' => ∃ m' L' acc, n = s.items.length - i ∧ i ≤ s.items.length ∧ NewAt W m1 L1 H1 m' L' H' D acc ∧ lcR s _ Qd (s.items.drop i) acc L', ⟨_, m1.res D, L1, [], rfl, Nat.zero_le _, newAt_upd rl1 Step.refl rl1 hD .nil, by rw [List.drop_zero]; exact q1⟩, ?_⟩
  rintro i n H' ⟨m', L', acc, rfl, hi, n, q⟩
  by_cases hlt : i < s.items.length
  · have e : s.items.drop i = s.items[i] :: s.items.drop (i + 1) := List.drop_eq_getElem_cons hlt
    rw [e] at q
    have hx : s.items[i]? = some s.items[i] := by simp [hlt]
    obtain ⟨ok, q⟩ := q
    obtain ⟨g1, g2⟩ := wk.go i _ m' L' H' hx n.st.wk n.rl ok
    refine .inr ⟨g1, fun H2 => ∃ m' L' acc, NewAt W m1 L1 H1 m' L' H2 D acc ∧ lcR s _ Qd (s.items.drop (i + 1)) acc L', fun H2 ⟨m2, L2, acc2, n2, q2⟩ => ⟨_, ?_, m2, L2, acc2, rfl, hlt, n2, q2⟩, fun x H2 y => ?_⟩
    · omega
    obtain ⟨nx, r⟩ := g2 x H2 y
    have n2 := n.go nx.st nx.rl
    have S2 := (S.nx st1 rl1).wipe n2.st.wk n2.rl own
    refine ⟨m', L', _, _, _, S2, r, q, fun ds' σ' q' S3 b => ⟨wipe_but hs b, m', L', ds', _, S3, q', fun bb L3 m3 H3 q3 st3 rl3 => ?_⟩⟩
    have n3 := n2.go st3 rl3
    cases bb with
    | false => exact ⟨m3, L3, acc, n3, by simpa using q3⟩
    | true =>
      refine ⟨m3, L3, ds', _, S3.nx st3 rl3, (if_pos rfl ▸ q3 : _), fun y L4 v m4 H4 q4 st4 rl4 rv => ?_⟩
      have n4 := n3.go st4 rl4
      obtain ⟨vs4, h1, h2⟩ := n4.at_
      exact ⟨vs4, h1, by rw [h2.length]; exact q4.1, m4, L4, acc ++ [y], n4.app h1 h2 rv, q4.2⟩
  · have e : i = s.items.length := by omega
    subst e
    rw [List.drop_length] at q
    exact .inl ⟨wk.stop m' L' H' n.st.wk n.rl q.1, c acc L' m' H' D q.2 (n.pre S.rl st1)⟩
theorem lc2_of {ti ti1 : TDi} {g g1 : IG} {tif tif1 : TDt} {te : TD} {own own1 : List Nat} {Q : VK} (hs : ∀ i ∈ g.slots, i ∈ own) (hs1 : ∀ i ∈ g1.slots, i ∈ own1)
    (h : lF W B (fun ds L Q => ti ds L fun s L1 => lcR2 s (fun x acc L2 k => semG g x (wipeD ds own) fun ds2 => tif ds2 L2 fun b L3 => if b = true then
      ti1 ds2 L3 fun s1 L4 => lcR s1 (fun x1 L5 k1 => semG g1 x1 (wipeD ds2 own1) fun ds3 => tif1 ds3 L5 fun b1 L6 => if b1 = true then te ds3 L6 fun y L7 => k1 (some y) L7 else k1 none L6) k s1.items acc L4 else k acc L3) Q s.items [] L1) σ H Q) :
    tLc2 (lI W B ti) (lG W none g.slots (semG g)) (lIf W none tif) (lI W none ti1) (lG W none g1.slots (semG g1)) (lIf W none tif1) (lE W none te) own own1 σ H Q := by
  obtain ⟨m, L, ds, Qd, S, q, c⟩ := h
  refine ⟨m, L, ds, _, S, q, fun s L1 m1 H1 J q1 st1 rl1 wk D hD => ?_⟩
  refine ⟨fun i n H' => ∃ m' L' acc, n = s.items.length - i ∧ i ≤ s.items.length ∧ NewAt W m1 L1 H1 m' L' H' D acc ∧ lcR2 s _ Qd (s.items.drop i) acc L', ⟨_, m1.res D, L1, [], rfl, Nat.zero_le _, newAt_upd rl1 Step.refl rl1 hD .nil, by rw [List.drop_zero]; exact q1⟩, ?_⟩
  rintro i n H' ⟨m', L', acc, rfl, hi, n, q⟩
  by_cases hlt : i < s.items.length
  · have e : s.items.drop i = s.items[i] :: s.items.drop (i + 1) := List.drop_eq_getElem_cons hlt
    rw [e] at q
    have hx : s.items[i]? = some s.items[i] := by simp [hlt]
    obtain ⟨ok, q⟩ := q
    obtain ⟨g1', g2⟩ := wk.go i _ m' L' H' hx n.st.wk n.rl ok
    refine .inr ⟨g1', fun H2 => ∃ m' L' acc, NewAt W m1 L1 H1 m' L' H2 D acc ∧ lcR2 s _ Qd (s.items.drop (i + 1)) acc L', fun H2 ⟨m2, L2, acc2, n2, q2⟩ => ⟨_, ?_, m2, L2, acc2, rfl, hlt, n2, q2⟩, fun x H2 y => ?_⟩
    · omega
    obtain ⟨nx, r⟩ := g2 x H2 y
    have n2 := n.go nx.st nx.rl
    have S2 := (S.nx st1 rl1).wipe n2.st.wk n2.rl own
    refine ⟨m', L', _, _, _, S2, r, q, fun ds' σ' q' S3 b => ⟨wipe_but hs b, m', L', ds', _, S3, q', fun bb L3 m3 H3 q3 st3 rl3 => ?_⟩⟩
    have n3 := n2.go st3 rl3
    cases bb with
    | false => exact ⟨m3, L3, acc, n3, by simpa using q3⟩
    | true =>
      have S4 := S3.nx st3 rl3
      refine ⟨m3, L3, ds', _, S4, (if_pos rfl ▸ q3 : _), fun s1 L4 m4 H4 J1 q4 st4 rl4 wk1 => ?_⟩
      have n4 := n3.go st4 rl4
      have S5 := S4.nx st4 rl4
      refine ⟨fun j n H' => ∃ m' L' acc, n = s1.items.length - j ∧ j ≤ s1.items.length ∧ Wk m4 L4 H4 m' L' H' ∧ NewAt W m1 L1 H1 m' L' H' D acc ∧ lcR s1 _ _ (s1.items.drop j) acc L', ⟨_, m4, L4, acc, rfl, Nat.zero_le _, Wk.refl, n4, by rw [List.drop_zero]; exact q4⟩, ?_⟩
      rintro j n H' ⟨m5, L5, acc5, rfl, hj, w5, n5, q5⟩
      by_cases hlt1 : j < s1.items.length
      · have e1 : s1.items.drop j = s1.items[j] :: s1.items.drop (j + 1) := List.drop_eq_getElem_cons hlt1
        rw [e1] at q5
        have hx1 : s1.items[j]? = some s1.items[j] := by simp [hlt1]
        obtain ⟨ok1, q5⟩ := q5
        obtain ⟨f1, f2⟩ := wk1.go j _ m5 L5 H' hx1 w5 n5.rl ok1
        refine .inr ⟨f1, fun H2 => ∃ m' L' acc, Wk m4 L4 H4 m' L' H2 ∧ NewAt W m1 L1 H1 m' L' H2 D acc ∧ lcR s1 _ _ (s1.items.drop (j + 1)) acc L', fun H2 ⟨m2, L2, acc2, w2, n2, q2⟩ => ⟨_, ?_, m2, L2, acc2, rfl, hlt1, w2, n2, q2⟩, fun x H2 y => ?_⟩
        · omega
        obtain ⟨nx1, r1⟩ := f2 x H2 y
        have n6 := n5.go nx1.st nx1.rl
        have w6 := w5.trans nx1.st.wk
        have S6 := S5.wipe w6 nx1.rl own1
        refine ⟨m5, L5, _, _, _, S6, r1, q5, fun ds7 σ7 q7 S7 b7 => ⟨wipe_but hs1 b7, m5, L5, ds7, _, S7, q7, fun bb L8 m8 H8 q8 st8 rl8 => ?_⟩⟩
        have n8 := n6.go st8 rl8
        have w8 := w6.trans st8.wk
        cases bb with
        | false => exact ⟨m8, L8, acc5, w8, n8, by simpa using q8⟩
        | true =>
          refine ⟨m8, L8, ds7, _, S7.nx st8 rl8, (if_pos rfl ▸ q8 : _), fun y L9 v m9 H9 q9 st9 rl9 rv => ?_⟩
          have n9 := n8.go st9 rl9
          obtain ⟨vs9, h1, h2⟩ := n9.at_
          exact ⟨vs9, h1, by rw [h2.length]; exact q9.1, m9, L9, acc5 ++ [y], (w8.trans st9.wk).trans (Wk.updR n9.nr), n9.app h1 h2 rv, q9.2⟩
      · have e1 : j = s1.items.length := by omega
        subst e1
        rw [List.drop_length] at q5
        exact .inl ⟨wk1.stop m5 L5 H' w5 n5.rl q5.1, m5, L5, acc5, n5, q5.2⟩
  · have e : i = s.items.length := by omega
    subst e
    rw [List.drop_length] at q
    exact .inl ⟨wk.stop m' L' H' n.st.wk n.rl q.1, c acc L' m' H' D q.2 (n.pre S.rl st1)⟩
end
end Nr

/-! New lists, methods, membership: the judgements. -/
namespace Nr
open PySem PySem.Spec PyProof.Rows L2
abbrev NoX : XS := fun _ _ _ => False
section
variable {Φ : Phi} {B : Option En} {E : XS} {k : Nat} {Γ : Gm} {X : Cx} {W : Wd} {e tg it elt : Expr} {es : List Expr} {pos : Pos} {scope : Scope}
theorem Good.blk (G : Good Φ B E k Γ X) (s : Shared) (H : Hp) (C : Addr) (cl : List (Str × Addr)) (fp : List Addr) : Good Φ none NoX k (Γ.blk scope) (X.blk s H scope (compEnvC scope cl C X.env) fp) where
  N := G.N
  nd := G.nd
  sc := by show relabel scope X.env = relS scope Γ.sc; rw [← G.sc]; rfl
  fn := fun x h1 h2 => by
    have h1 : isLoc (scope.names.lookup x) = true := h1
    rcases isLoc_of h1 with z | z
    · right
      show (relabel scope X.env).names.lookup x = some .local
      exact lookup_relS_keep (sc := X.env.scope) (fun z => nomatch z) z
    · left
      show (scope.names.lookup x == some .cell) = true
      rw [z]
      rfl
  calm := G.calm
  room := G.room
  tk := takes0.imp fun c d σ H ⟨_, _, _, _, _, _, _, f⟩ => f
  cst := G.cst
  blt := G.blt
  fns := G.fns
  call := G.call
  exi := G.exi
theorem own_map {N : List Str} (own : List Nat) : (own.map fun i => (N.getD i Str.empty, i)).map (·.2) = own := by
  rw [List.map_map]
  exact List.map_id' own
theorem f_lc {own : List Nat} {ifs : List Expr} {g : IG} {ti : TDi} {tif : TDt} {te : TD} (G : Good Φ B E k Γ X) (hb : blkC Γ.N Γ.sc scope (own.map fun i => (Γ.N.getD i Str.empty, i)) = true) (hi : DI X (wd X) B tg it ti) (hf : ∀ x, foldedSetIterable it X.env x = pure x) (hg : chkG (Γ.blk scope) g tg = true) (hs : (g.slots.all own.contains) = true)
    (ht : ∀ X', wd X' = wd X → Good Φ none NoX k (Γ.blk scope) X' → PTs X' ifs (lIf (wd X) none tif)) (he : ∀ X', wd X' = wd X → Good Φ none NoX k (Γ.blk scope) X' → DE X' (wd X) none elt te) :
    DF X (wd X) B (.ListComp elt [⟨tg, it, ifs, 0⟩] scope pos) (fun ds L Q => ti ds L fun s L1 => lcR s (fun x L2 k => semG g x (wipeD ds own) fun ds2 => tif ds2 L2 fun b L3 => if b = true then te ds2 L3 fun y L4 => k (some y) L4 else k none L3) Q s.items [] L1) := by
  have ok : BlkOk X.N X.env.scope scope (own.map fun i => (Γ.N.getD i Str.empty, i)) := by rw [G.N, G.sc]; exact blkOk_by hb
  refine peI (pe_lc (g := lG (wd X) none g.slots (semG g)) (tt := lIf (wd X) none tif) (te := lE (wd X) none te) G.calm G.ndX hi ok (fun s H C cl fp => g_ok (G.blk s H C cl fp) g tg hg) (fun s H C cl fp => ht _ rfl (G.blk s H C cl fp)) (fun s H C cl fp => he _ rfl (G.blk s H C cl fp)) hf) fun σ H Q h => ?_
  rw [own_map]
  exact lc_of (fun i hi => by simpa using List.all_eq_true.mp hs i hi) h
theorem f_lc2 {own own1 : List Nat} {ifs ifs1 : List Expr} {g g1 : IG} {ti ti1 : TDi} {tif tif1 : TDt} {te : TD} {tg1 it1 : Expr} (G : Good Φ B E k Γ X) (hb : blkC Γ.N Γ.sc scope (own.map fun i => (Γ.N.getD i Str.empty, i)) = true) (h1 : (own1.all own.contains) = true) (hi : DI X (wd X) B tg it ti) (hf : ∀ x, foldedSetIterable it X.env x = pure x) (hf1 : ∀ env x, foldedSetIterable it1 env x = pure x)
    (hg : chkG (Γ.blk scope) g tg = true) (hs : (g.slots.all own.contains) = true) (hg1 : chkG (Γ.blk scope) g1 tg1 = true) (hs1 : (g1.slots.all own1.contains) = true)
    (ht : ∀ X', wd X' = wd X → Good Φ none NoX k (Γ.blk scope) X' → PTs X' ifs (lIf (wd X) none tif)) (hi1 : ∀ X', wd X' = wd X → Good Φ none NoX k (Γ.blk scope) X' → DI X' (wd X) none tg1 it1 ti1) (ht1 : ∀ X', wd X' = wd X → Good Φ none NoX k (Γ.blk scope) X' → PTs X' ifs1 (lIf (wd X) none tif1)) (he : ∀ X', wd X' = wd X → Good Φ none NoX k (Γ.blk scope) X' → DE X' (wd X) none elt te) :
    DF X (wd X) B (.ListComp elt [⟨tg, it, ifs, 0⟩, ⟨tg1, it1, ifs1, 0⟩] scope pos) (fun ds L Q => ti ds L fun s L1 => lcR2 s (fun x acc L2 k => semG g x (wipeD ds own) fun ds2 => tif ds2 L2 fun b L3 => if b = true then
      ti1 ds2 L3 fun s1 L4 => lcR s1 (fun x1 L5 k1 => semG g1 x1 (wipeD ds2 own1) fun ds3 => tif1 ds3 L5 fun b1 L6 => if b1 = true then te ds3 L6 fun y L7 => k1 (some y) L7 else k1 none L6) k s1.items acc L4 else k acc L3) Q s.items [] L1) := by
  have ok : BlkOk X.N X.env.scope scope (own.map fun i => (Γ.N.getD i Str.empty, i)) := by rw [G.N, G.sc]; exact blkOk_by hb
  refine peI (pe_lc2 (vs1 := own1) (g := lG (wd X) none g.slots (semG g)) (tt := lIf (wd X) none tif) (te := lE (wd X) none te) (wi1 := lI (wd X) none ti1) (g1 := lG (wd X) none g1.slots (semG g1)) (tt1 := lIf (wd X) none tif1) G.calm G.ndX hi ok (fun i hi => by rw [own_map]; simpa using List.all_eq_true.mp h1 i hi) (fun s H C cl fp => g_ok (G.blk s H C cl fp) g tg hg) (fun s H C cl fp => ht _ rfl (G.blk s H C cl fp)) (fun s H C cl fp => hi1 _ rfl (G.blk s H C cl fp)) (fun s H C cl fp => g_ok (G.blk s H C cl fp) g1 tg1 hg1) (fun s H C cl fp => ht1 _ rfl (G.blk s H C cl fp)) (fun s H C cl fp => he _ rfl (G.blk s H C cl fp)) hf hf1) fun σ H Q h => ?_
  rw [own_map]
  exact lc2_of (fun i hi => by simpa using List.all_eq_true.mp hs i hi) (fun i hi => by simpa using List.all_eq_true.mp hs1 i hi) h
/-! ### list(..), tuple(range(..)) -/
theorem f_of {x : Str} {p : Pos} {t : TD} (G : Good Φ B E k Γ X) (hx : Γ.gl x = true) (hxe : x = Str.ofString "list") (hs : starE e = false) (h : DE X (wd X) B e t) : DF X (wd X) B (.Call (.Name x p) [e] [] pos) (fun ds L Q => t ds L fun x L1 => seqK L1 x fun xs => Q xs L1) := by
  obtain ⟨g1, g2, g3⟩ := G.gl hx
  refine peI (pe_callTy call_list_of g1 (by rw [hxe]; exact G.blt _ (by decide +kernel)) (by rw [hxe]; decide +kernel) (pa_cons h pa_nil (star_of hs)) g3 g2 (star_of hs)) fun σ H Q ⟨m, L, ds, Qd, S, q, c⟩ =>
    ⟨m, L, ds, _, S, q, fun d L1 v m1 H1 q1 st1 rl1 r1 => ?_⟩
  obtain ⟨p, vs, xs, rfl, h1, h2, h3⟩ := seq_ok rl1 r1 q1
  refine ⟨p, vs, rfl, h3.imp id (·.1), fun l hl => c xs L1 _ _ l h2 (newAt_upd S.rl st1 rl1 hl h1)⟩
def lR (W : Wd) (B : Option En) (t : TDr) : _root_.L2.St → Hp → (Int → Int → Hp → Prop) → Prop := fun σ H Q => ∃ (m : Nb) (L : Hl) (ds : Ds) (Qd : Int → Int → Hl → Prop), Sit W B m L ds σ H ∧ t ds L Qd ∧
  ∀ i j L' m' H', Qd i j L' → Step m L H m' L' H' → RepL W m' L' H' → Q i j H'
abbrev DR (X : Cx) (W : Wd) (B : Option En) (e : Expr) (t : TDr) : Prop := PRg X e (lR W B t)
theorem r_1 {x : Str} {p : Pos} {t : TD} (G : Good Φ B E k Γ X) (hx : Γ.gl x = true) (hxe : x = Str.ofString "range") (hs : starE e = false) (h : DE X (wd X) B e t) : DR X (wd X) B (.Call (.Name x p) [e] [] pos) (dR1 t) := by
  subst hxe
  obtain ⟨g1, g2, g3⟩ := G.gl hx
  intro pins s σ H Q I ⟨m, L, ds, Qd, S, q, c⟩
  exact prg_1 g1 (G.blt _ (by decide +kernel)) h (star_of hs) pins s σ H Q I ⟨m, L, ds, _, S, q, fun d L1 v m1 H1 q1 st1 rl1 r1 => by
    cases r1 with
    | int j => exact ⟨j, rfl, c 0 j L1 m1 H1 q1 st1 rl1⟩
    | _ => exact q1.elim⟩
theorem r_2 {x : Str} {p : Pos} {e2 : Expr} {t t2 : TD} (G : Good Φ B E k Γ X) (hx : Γ.gl x = true) (hxe : x = Str.ofString "range") (hs : starE e = false) (hs2 : starE e2 = false) (h : DE X (wd X) B e t) (h2 : DE X (wd X) B e2 t2) : DR X (wd X) B (.Call (.Name x p) [e, e2] [] pos) (dR2 t t2) := by
  subst hxe
  obtain ⟨g1, g2, g3⟩ := G.gl hx
  intro pins s σ H Q I ⟨m, L, ds, Qd, S, q, c⟩
  exact prg_2 g1 (G.blt _ (by decide +kernel)) h h2 (star_of hs) (star_of hs2) (by rw [star_of hs2]; rfl) pins s σ H Q I ⟨m, L, ds, _, S, q, fun d L1 v m1 H1 q1 st1 rl1 r1 => ⟨m1, L1, ds, _, S.nx st1 rl1, q1, fun d2 L2 v2 m2 H2 q2 st2 rl2 r2 => by
    cases r1 with
    | int i => cases r2 with
      | int j => exact ⟨i, j, rfl, rfl, c i j L2 m2 H2 q2 (st1.trans st2) rl2⟩
      | _ => exact q2.elim
    | _ => exact q2.elim⟩⟩
theorem rg_rep {m : Nb} {L : Hl} {H : Hp} {a b : Int} : RepVs W m L H (rgV a b) (rngD a b) := by
  unfold rgV rngD
  generalize (List.range (b - a).toNat) = l
  induction l with
  | nil => exact .nil
  | cons i l ih => exact .cons (.int _) ih
theorem f_rng {x : Str} {p : Pos} {t : TDr} (G : Good Φ B E k Γ X) (hx : Γ.gl x = true) (hxe : x = Str.ofString "list") (hs : starE e = false) (h : DR X (wd X) B e t) : DF X (wd X) B (.Call (.Name x p) [e] [] pos) (fun ds L Q => t ds L fun i j L1 => RgOk i j ∧ Q (rngD i j) L1) := by
  subst hxe
  obtain ⟨g1, g2, g3⟩ := G.gl hx
  exact peI (pe_listRg G.calm g1 (G.blt _ (by decide +kernel)) h (star_of hs)) fun σ H Q ⟨m, L, ds, Qd, S, q, c⟩ =>
    ⟨m, L, ds, _, S, q, fun i j L1 m1 H1 q1 st1 rl1 => ⟨q1.1, fun l hl => c _ L1 _ _ l q1.2 (newAt_upd S.rl st1 rl1 hl rg_rep)⟩⟩
theorem e_tupr {x : Str} {p : Pos} {t : TDr} (G : Good Φ B E k Γ X) (hx : Γ.gl x = true) (hxe : x = Str.ofString "tuple") (hs : starE e = false) (h : DR X (wd X) B e t) : DE X (wd X) B (.Call (.Name x p) [e] [] pos) (fun ds L Q => t ds L fun i j L1 => RgOk i j ∧ Q (.tup (rngD i j)) L1) := by
  subst hxe
  obtain ⟨g1, g2, g3⟩ := G.gl hx
  exact peI (pe_tupRg G.calm g1 (G.blt _ (by decide +kernel)) h (star_of hs)) fun σ H Q ⟨m, L, ds, Qd, S, q, c⟩ =>
    ⟨m, L, ds, _, S, q, fun i j L1 m1 H1 q1 st1 rl1 => ⟨q1.1, fun l hl => c _ L1 _ m1 _ q1.2 (st1.trans (Step.laid hl)) (rl1.laid hl) (rep_tup rl1 hl rg_rep)⟩⟩
/-! ### xs + ys, xs * n -/
theorem f_cat {a b : Expr} {ta tb : TD} (ha : DE X W B a ta) (hb : DE X W B b tb) : DF X W B (.BinOp a .Add b pos) (fun ds L Q => ta ds L fun x L1 => tb ds L1 fun y L2 => (match res L2 x, res L2 y with
    | .lst xs, .lst ys => xs.length + ys.length ≤ sizeLine ∧ Q (xs ++ ys) L2
    | _, _ => False)) := peI (pe_op op_cat ha hb) fun σ H Q ⟨m, L, ds, Qd, S, q, c⟩ =>
  ⟨m, L, ds, _, S, q, fun x L1 v m1 H1 q1 st1 rl1 r1 => ⟨m1, L1, ds, _, S.nx st1 rl1, q1, fun y L2 u m2 H2 q2 st2 rl2 r2 => by
    split at q2
    · rename_i xs ys ex ey
      obtain ⟨p, vs, rfl, hv, f1⟩ := res_lst rl2 (r1.step st2) ex
      obtain ⟨q, us, rfl, hu, f2⟩ := res_lst rl2 r2 ey
      exact ⟨p, q, vs, us, rfl, rfl, hv, hu, by rw [f1.length, f2.length]; exact q2.1, fun l hl => c _ L2 _ _ l q2.2 (newAt_upd S.rl (st1.trans st2) rl2 hl (f1.append f2))⟩
    · exact q2.elim⟩⟩
theorem f_rep {a b : Expr} {ta tb : TD} (ha : DE X W B a ta) (hb : DE X W B b tb) : DF X W B (.BinOp a .Mult b pos) (fun ds L Q => ta ds L fun x L1 => tb ds L1 fun y L2 => (match res L2 x, y with
    | .lst xs, .int k => (-(2 ^ 63) ≤ k ∧ k < 2 ^ 63 ∧ xs.length * k.toNat ≤ sizeLine) ∧ Q (List.replicate k.toNat xs).flatten L2
    | _, _ => False)) := peI (pe_op op_rep ha hb) fun σ H Q ⟨m, L, ds, Qd, S, q, c⟩ =>
  ⟨m, L, ds, _, S, q, fun x L1 v m1 H1 q1 st1 rl1 r1 => ⟨m1, L1, ds, _, S.nx st1 rl1, q1, fun y L2 u m2 H2 q2 st2 rl2 r2 => by
    split at q2
    · rename_i xs kk ex
      obtain ⟨p, vs, rfl, hv, f1⟩ := res_lst rl2 (r1.step st2) ex
      cases r2
      exact ⟨p, kk, vs, rfl, rfl, hv, q2.1.1, q2.1.2.1, by rw [f1.length]; exact q2.1.2.2, fun l hl => c _ L2 _ _ l q2.2 (newAt_upd S.rl (st1.trans st2) rl2 hl (f1.rep _))⟩
    · exact q2.elim⟩⟩
/-! ### {} -/
theorem e_dnil : DE X W B (.Dict [] [] pos) (fun _ L Q => Q (.dct false [] []) L) := peI pe_dnewK fun σ H Q ⟨m, L, ds, Qd, S, q, c⟩ p hp => by
  refine c _ L _ m _ q (Step.laid hp) (S.rl.laid hp) (.dct (t := false) (kv := []) (vv := []) ?_ .nil .nil (S.rl.free hp))
  exact ⟨[], upd_same, rfl, rfl, List.nodup_nil, rfl⟩
end
end Nr

/-! New dicts. -/
namespace Nr
open PySem PySem.Spec PyProof.Rows L2
abbrev TDd := Ds → Hl → (Bool → List D → List D → Hl → Prop) → Prop
/-- a new dict stands at p, nothing else does -/
structure NewD (W : Wd) (m : Nb) (L : Hl) (H : Hp) (m' : Nb) (L' : Hl) (H' : Hp) (p : Addr) (t : Bool) (ks vs : List D) : Prop where
  r0 : RepL W m L H
  st : Step m L H m' L' H'
  rl : RepL W m' L' H'
  fr : H p = none
  nm : ApN m' L' p
  nr : p ∈ m'.r
  at_ : ∃ kv vv, DctAt W H' p t kv ks vv ∧ RepVs W m' L' H' kv ks ∧ RepVs W m' L' H' vv vs
def lFD (W : Wd) (B : Option En) (t : TDd) : TE := fun σ H Q => ∃ (m : Nb) (L : Hl) (ds : Ds) (Qd : Bool → List D → List D → Hl → Prop), Sit W B m L ds σ H ∧ t ds L Qd ∧
  ∀ b ks vs L' m' H' p, Qd b ks vs L' → NewD W m L H m' L' H' p b ks vs → Q (.ref p) H'
abbrev DFD (X : Cx) (W : Wd) (B : Option En) (e : Expr) (t : TDd) : Prop := PE X e (lFD W B t)
section
variable {W : Wd} {m m' m1 m2 : Nb} {L L' L1 L2 : Hl} {H H' H1 H2 : Hp} {p : Addr} {t : Bool} {ks vs : List D} {B : Option En} {ds : Ds} {σ : _root_.L2.St}
theorem NewD.frz (n : NewD W m L H m' L' H' p t ks vs) : Step m L H (m'.unr p) L' H' ∧ RepL W (m'.unr p) L' H' ∧ RepV W (m'.unr p) L' H' (.ref p) (.dct t ks vs) := by
  obtain ⟨kv, vv, h1, h2, h3⟩ := n.at_
  exact ⟨Step.unr n.r0 n.st n.fr, n.rl.unr, .dct h1 h2.unr h3.unr ⟨n.nm, fun z => (mem_unr.mp z).2 rfl⟩⟩
theorem NewD.num (n : NewD W m L H m' L' H' p t ks vs) :
    Step m L H (nwId (m'.unr p) L'.length p) (L' ++ [.dct t ks vs]) H' ∧ RepL W (nwId (m'.unr p) L'.length p) (L' ++ [.dct t ks vs]) H' ∧ RepV W (nwId (m'.unr p) L'.length p) (L' ++ [.dct t ks vs]) H' (.ref p) (.obj L'.length) := by
  obtain ⟨kv, vv, h1, h2, h3⟩ := n.at_
  have st := Step.unr n.r0 n.st n.fr
  have r : RepL W (nwId (m'.unr p) L'.length p) (L' ++ [.dct t ks vs]) H' := n.rl.num n.nm n.nr ⟨kv, vv, h1, h2.num n.nm n.nr, h3.num n.nm n.nr⟩
  refine ⟨⟨Nat.le_trans st.len (by simp), fun i hi => ?_, st.rs, fun i hi ai => ?_, st.keep, st.there, fun i hi ai => ?_⟩, r, ?_⟩
  · rw [nwId_ne (Nat.ne_of_lt (Nat.lt_of_lt_of_le hi st.len))]
    exact st.ids i hi
  · rcases alive_push ai with ⟨_, ai⟩ | h
    · exact st.live i hi ai
    · exact absurd (h ▸ hi) (Nat.not_lt.mpr st.len)
  · rcases alive_push ai with ⟨hj, ai⟩ | h
    · rw [nwId_ne (Nat.ne_of_lt hj)]
      exact st.new i hi ai
    · rw [h, nwId_same]
      exact n.fr
  · have := RepV.obj (W := W) (m := nwId (m'.unr p) L'.length p) (L := L' ++ [.dct t ks vs]) (H := H') (i := L'.length) (by simp)
    rw [nwId_same] at this
    exact this
theorem newD_upd {o : HO} {kv vv : List V} (r0 : RepL W m L H) (st : Step m L H m' L' H') (rl : RepL W m' L' H') (hp : H' p = none) (hd : DctAt W (upd H' p o) p t kv ks vv) (rk : RepVs W m' L' H' kv ks) (rv : RepVs W m' L' H' vv vs) : NewD W m L H (m'.res p) L' (upd H' p o) p t ks vs :=
  ⟨r0, st.trans (Step.resv hp), rl.resv hp, st.there p hp, (rl.free hp).1, List.mem_cons_self, kv, vv, hd, rk.resv hp, rv.resv hp⟩
theorem NewD.go (n : NewD W m L H m1 L1 H1 p t ks vs) (st : Step m1 L1 H1 m2 L2 H2) (rl : RepL W m2 L2 H2) : NewD W m L H m2 L2 H2 p t ks vs := by
  obtain ⟨kv, vv, h1, h2, h3⟩ := n.at_
  exact ⟨n.r0, n.st.trans st, rl, n.fr, st.apn h1.ne n.nm, st.rs.1 _ n.nr, kv, vv, h1.at fun o e => st.keep _ o e n.nm, h2.step st, h3.step st⟩
theorem NewD.pre {m0 : Nb} {L0 : Hl} {H0 : Hp} (n : NewD W m L H m1 L1 H1 p t ks vs) (r0 : RepL W m0 L0 H0) (st : Step m0 L0 H0 m L H) : NewD W m0 L0 H0 m1 L1 H1 p t ks vs :=
  ⟨r0, st.trans n.st, n.rl, st.there _ n.fr, n.nm, n.nr, n.at_⟩
/-- the reserved dict changes -/
theorem NewD.put {o : HO} {kv vv : List V} {ks' vs' : List D} (n : NewD W m L H m1 L1 H1 p t ks vs) (hd : DctAt W (upd H1 p o) p t kv ks' vv) (rk : RepVs W m1 L1 H1 kv ks') (rv : RepVs W m1 L1 H1 vv vs') : NewD W m L H m1 L1 (upd H1 p o) p t ks' vs' :=
  ⟨n.r0, n.st.updR n.fr, n.rl.updR n.nr, n.fr, n.nm, n.nr, kv, vv, hd, rk.wk (Wk.updR n.nr), rv.wk (Wk.updR n.nr)⟩
end
section
variable {W : Wd} {B : Option En} {X : Cx} {e : Expr}
theorem e_frzd {t : TDd} (h : DFD X W B e t) : DE X W B e (fun ds L Q => t ds L fun b ks vs L1 => Q (.dct b ks vs) L1) := peI h fun σ H Q ⟨m, L, ds, Qd, S, q, c⟩ =>
  ⟨m, L, ds, _, S, q, fun b ks vs L' m' H' p q' n => c _ L' _ _ H' q' n.frz.1 n.frz.2.1 n.frz.2.2⟩
theorem e_newd {t : TDd} (h : DFD X W B e t) : DE X W B e (fun ds L Q => t ds L fun b ks vs L1 => Q (.obj L1.length) (L1 ++ [.dct b ks vs])) := peI h fun σ H Q ⟨m, L, ds, Qd, S, q, c⟩ =>
  ⟨m, L, ds, _, S, q, fun b ks vs L' m' H' p q' n => c _ _ _ _ H' q' n.num.1 n.num.2.1 n.num.2.2⟩
end
end Nr
namespace Nr
open PySem PySem.Spec PyProof.Rows L2
/-! ### keys that are ints or texts -/
theorem nkey_flat {a : D} {k : Key} (h : fkey a = some k) : nkey a = (match k with | .inl i => .num i | .inr x => .text x) := by
  cases a <;> simp [fkey] at h <;> subst h <;> rfl
theorem keq_flat {a b : D} {k j : Key} (ha : fkey a = some k) (hb : fkey b = some j) : keq a b = decide (k = j) := by
  unfold keq
  rw [nkey_flat ha, nkey_flat hb]
  cases k <;> cases j <;> simp
def putR (kvs : List (Key × V)) (k : Key) (v : V) : List (Key × V) := match kvs with
  | [] => [(k, v)]
  | p :: r => if p.1 = k then (p.1, v) :: r else p :: putR r k v
theorem putK_none {κ : Type} [DecidableEq κ] {k : κ} {v : V} : ∀ {kvs : List (κ × V)}, k ∉ kvs.map (·.1) → kvs.map (fun kv => if kv.1 = k then (kv.1, v) else kv) = kvs
  | [], _ => rfl
  | p :: r, h => by
    simp at h
    rw [List.map_cons, if_neg (fun e => h.1 e.symm), putK_none (by simpa using h.2)]
theorem putR_eq {k : Key} {v : V} : ∀ {kvs : List (Key × V)}, (kvs.map (·.1)).Nodup → putK kvs k v = putR kvs k v
  | [], _ => rfl
  | p :: r, h => by
    simp only [List.map_cons, List.nodup_cons] at h
    by_cases e : p.1 = k
    · have : putK (p :: r) k v = (p.1, v) :: r := by
        unfold putK
        rw [if_pos (by simp [e]), List.map_cons, if_pos e, putK_none (by rw [← e]; exact h.1)]
      rw [this]
      unfold putR
      rw [if_pos e]
    · have ih := putR_eq (k := k) (v := v) h.2
      unfold putR
      rw [if_neg e, ← ih]
      unfold putK
      rw [List.any_cons, decide_eq_false e, Bool.false_or, List.map_cons, if_neg e]
      split <;> simp
section
variable {W : Wd} {m : Nb} {L : Hl} {H : Hp}
theorem put_flat {y z : D} {k : Key} {u : V} (hy : fkey y = some k) (ry : RepV W m L H (kV k) y) (ru : RepV W m L H u z) : ∀ {kvs : List (Key × V)} {ks vs : List D}, RepVs W m L H (kvs.map fun p => kV p.1) ks → RepVs W m L H (kvs.map (·.2)) vs → ks.map fkey = kvs.map (fun p => some p.1) →
    RepVs W m L H ((putR kvs k u).map fun p => kV p.1) (dputK ks y) ∧ RepVs W m L H ((putR kvs k u).map (·.2)) (dputV ks vs y z) ∧ (dputK ks y).map fkey = (putR kvs k u).map (fun p => some p.1)
  | [], _, _, .nil, .nil, _ => ⟨.cons ry .nil, .cons ru .nil, by simp [dputK, putR, hy]⟩
  | p :: kvs, _, _, .cons r1 t1, .cons r2 t2, e => by
    simp only [List.map_cons, List.cons.injEq] at e
    obtain ⟨e1, e2⟩ := e
    unfold dputK dputV putR
    rw [keq_flat e1 hy]
    by_cases h : p.1 = k
    · rw [decide_eq_true h, if_pos rfl, if_pos rfl, if_pos h]
      refine ⟨.cons r1 t1, .cons ru t2, ?_⟩
      simp [e1, e2]
    · rw [decide_eq_false h, if_neg Bool.false_ne_true, if_neg Bool.false_ne_true, if_neg h]
      obtain ⟨h1, h2, h3⟩ := put_flat hy ry ru t1 t2 e2
      refine ⟨.cons r1 h1, .cons r2 h2, ?_⟩
      simp [e1, h3]
theorem putR_nodup {k : Key} {v : V} : ∀ {kvs : List (Key × V)}, (kvs.map (·.1)).Nodup → ((putR kvs k v).map (·.1)).Nodup ∧ ∀ j, j ∈ (putR kvs k v).map (·.1) → j = k ∨ j ∈ kvs.map (·.1)
  | [], _ => by simp [putR]
  | p :: r, h => by
    simp only [List.map_cons, List.nodup_cons] at h
    unfold putR
    by_cases e : p.1 = k
    · rw [if_pos e]
      refine ⟨by simpa using h, fun j hj => .inr (by simpa using hj)⟩
    · rw [if_neg e]
      obtain ⟨h1, h2⟩ := putR_nodup (k := k) (v := v) h.2
      simp only [List.map_cons, List.nodup_cons]
      refine ⟨⟨fun z => (h2 _ z).elim e h.1, h1⟩, fun j hj => ?_⟩
      rcases List.mem_cons.mp hj with z | z
      · exact .inr (by rw [z]; exact List.mem_cons_self)
      · exact (h2 j z).imp id fun z => List.mem_cons_of_mem _ z
end
section
variable {W : Wd} {m m' : Nb} {L L' : Hl} {H H' : Hp} {B : Option En} {ds : Ds} {σ : _root_.L2.St}
theorem key_flat {v : V} {y : D} (h : keyOk false y = true) (r : RepV W m L H v y) : ∃ k, v = kV k ∧ fkey y = some k := by
  cases r <;> first | (simp [keyOk] at h; done) | skip
  · exact ⟨.inl _, rfl, rfl⟩
  · exact ⟨.inr _, rfl, rfl⟩
theorem dc_of {ti : TDi} {g : IG} {tif : TDt} {tk tv : TD} {own : List Nat} {Q : VK} (hs : ∀ i ∈ g.slots, i ∈ own)
    (h : lFD W B (fun ds L Q => ti ds L fun s L1 => dcR false s (fun x L2 k => semG g x (wipeD ds own) fun ds2 => tif ds2 L2 fun b L3 => if b = true then tk ds2 L3 fun y L4 => tv ds2 L4 fun z L5 => k (some (y, z)) L5 else k none L3) (fun ks vs L => Q false ks vs L) s.items [] [] L1) σ H Q) :
    tDc (lI W B ti) (lG W none g.slots (semG g)) (lIf W none tif) (lE W none tk) (lE W none tv) own σ H Q := by
  obtain ⟨m, L, ds, Qd, S, q, c⟩ := h
  refine ⟨m, L, ds, _, S, q, fun s L1 m1 H1 J q1 st1 rl1 wk D hD => ?_⟩
  have n0 : NewD W m1 L1 H1 (m1.res D) L1 (upd H1 D (.dK [])) D false [] [] := newD_upd (kv := []) (vv := []) rl1 Step.refl rl1 hD ⟨[], upd_same, rfl, rfl, List.nodup_nil, rfl⟩ .nil .nil
  refine ⟨fun i n H' => ∃ m' L' ks vs, n = s.items.length - i ∧ i ≤ s.items.length ∧ NewD W m1 L1 H1 m' L' H' D false ks vs ∧ dcR false s _ _ (s.items.drop i) ks vs L', ⟨_, m1.res D, L1, [], [], rfl, Nat.zero_le _, n0, by rw [List.drop_zero]; exact q1⟩, ?_⟩
  rintro i n H' ⟨m', L', ks, vs, rfl, hi, n, q⟩
  by_cases hlt : i < s.items.length
  · have e : s.items.drop i = s.items[i] :: s.items.drop (i + 1) := List.drop_eq_getElem_cons hlt
    rw [e] at q
    have hx : s.items[i]? = some s.items[i] := by simp [hlt]
    obtain ⟨ok, q⟩ := q
    obtain ⟨g1, g2⟩ := wk.go i _ m' L' H' hx n.st.wk n.rl ok
    refine .inr ⟨g1, fun H2 => ∃ m' L' ks vs, NewD W m1 L1 H1 m' L' H2 D false ks vs ∧ dcR false s _ _ (s.items.drop (i + 1)) ks vs L', fun H2 ⟨m2, L2, ks2, vs2, n2, q2⟩ => ⟨_, ?_, m2, L2, ks2, vs2, rfl, hlt, n2, q2⟩, fun x H2 y => ?_⟩
    · omega
    obtain ⟨nx, r⟩ := g2 x H2 y
    have n2 := n.go nx.st nx.rl
    have S2 := (S.nx st1 rl1).wipe n2.st.wk n2.rl own
    refine ⟨m', L', _, _, _, S2, r, q, fun ds' σ' q' S3 b => ⟨wipe_but hs b, m', L', ds', _, S3, q', fun bb L3 m3 H3 q3 st3 rl3 => ?_⟩⟩
    have n3 := n2.go st3 rl3
    cases bb with
    | false => exact ⟨m3, L3, ks, vs, n3, by simpa using q3⟩
    | true =>
      refine ⟨m3, L3, ds', _, S3.nx st3 rl3, (if_pos rfl ▸ q3 : _), fun y L4 v m4 H4 q4 st4 rl4 rv => ?_⟩
      refine ⟨m4, L4, ds', _, (S3.nx st3 rl3).nx st4 rl4, q4, fun z L5 u m5 H5 q5 st5 rl5 ru => ?_⟩
      have n5 := (n3.go st4 rl4).go st5 rl5
      obtain ⟨kv, vv, ⟨kvs, hD5, e1, e2, nd, ek⟩, h2, h3⟩ := n5.at_
      subst e1 e2
      obtain ⟨⟨ky, hl⟩, q5⟩ := q5
      obtain ⟨k, rfl, hk⟩ := key_flat ky rv
      obtain ⟨f1, f2, f3⟩ := put_flat hk (rv.step st5) ru h2 h3 ek
      refine ⟨kvs, k, rfl, hD5, by rw [show kvs.length = ks.length by simpa using h2.length]; exact hl, m5, L5, dputK ks y, dputV ks vs y z, ?_, q5⟩
      rw [putR_eq nd]
      exact n5.put ⟨_, upd_same, rfl, rfl, (putR_nodup nd).1, f3⟩ f1 f2
  · have e : i = s.items.length := by omega
    subst e
    rw [List.drop_length] at q
    exact .inl ⟨wk.stop m' L' H' n.st.wk n.rl q.1, c false ks vs L' m' H' D q.2 (n.pre S.rl st1)⟩
end
section
variable {Φ : Phi} {B : Option En} {E : XS} {k : Nat} {Γ : Gm} {X : Cx} {tg it kx vx : Expr} {pos : Pos} {scope : Scope}
theorem f_dc {own : List Nat} {ifs : List Expr} {g : IG} {ti : TDi} {tif : TDt} {tk tv : TD} (G : Good Φ B E k Γ X) (hb : blkC Γ.N Γ.sc scope (own.map fun i => (Γ.N.getD i Str.empty, i)) = true) (hi : DI X (wd X) B tg it ti) (hf : ∀ x, foldedSetIterable it X.env x = pure x) (hg : chkG (Γ.blk scope) g tg = true) (hs : (g.slots.all own.contains) = true)
    (ht : ∀ X', wd X' = wd X → Good Φ none NoX k (Γ.blk scope) X' → PTs X' ifs (lIf (wd X) none tif)) (hk : ∀ X', wd X' = wd X → Good Φ none NoX k (Γ.blk scope) X' → DE X' (wd X) none kx tk) (hv : ∀ X', wd X' = wd X → Good Φ none NoX k (Γ.blk scope) X' → DE X' (wd X) none vx tv) :
    DFD X (wd X) B (.DictComp kx vx [⟨tg, it, ifs, 0⟩] scope pos) (fun ds L Q => ti ds L fun s L1 => dcR false s (fun x L2 k => semG g x (wipeD ds own) fun ds2 => tif ds2 L2 fun b L3 => if b = true then tk ds2 L3 fun y L4 => tv ds2 L4 fun z L5 => k (some (y, z)) L5 else k none L3) (fun ks vs L => Q false ks vs L) s.items [] [] L1) := by
  have ok : BlkOk X.N X.env.scope scope (own.map fun i => (Γ.N.getD i Str.empty, i)) := by rw [G.N, G.sc]; exact blkOk_by hb
  refine peI (pe_dc (g := lG (wd X) none g.slots (semG g)) (tt := lIf (wd X) none tif) (tk := lE (wd X) none tk) (tv := lE (wd X) none tv) G.calm G.ndX hi ok (fun s H C cl fp => g_ok (G.blk s H C cl fp) g tg hg) (fun s H C cl fp => ht _ rfl (G.blk s H C cl fp)) (fun s H C cl fp => hk _ rfl (G.blk s H C cl fp)) (fun s H C cl fp => hv _ rfl (G.blk s H C cl fp)) hf) fun σ H Q h => ?_
  rw [own_map]
  exact dc_of (fun i hi => by simpa using List.all_eq_true.mp hs i hi) h
theorem f_dnil {W : Wd} : DFD X W B (.Dict [] [] pos) (fun _ L Q => Q false [] [] L) := peI pe_dnewK fun σ H Q ⟨m, L, ds, Qd, S, q, c⟩ p hp =>
  c false [] [] L _ _ p q (newD_upd (kv := []) (vv := []) S.rl Step.refl S.rl hp ⟨[], upd_same, rfl, rfl, List.nodup_nil, rfl⟩ .nil .nil)
end
end Nr

/-! Dict comprehensions whose keys are of either kind. -/
namespace Nr
open PySem PySem.Spec PyProof.Rows L2
/-- what a store into the dict at D makes of a heap -/
def StoT (W : Wd) (t : Bool) (D : Addr) (y z : V) (H : Hp) (Nx : Hp → Prop) : Prop :=
  ∃ m L ks vs kv vv yd zd, DctAt W H D t kv ks vv ∧ RepVs W m L H kv ks ∧ RepVs W m L H vv vs ∧ RepV W m L H y yd ∧ RepV W m L H z zd ∧ keyOk t yd = true ∧ ks.length < sizeLine ∧
    ∀ o kv' vv', Mut (some o) → DctAt W (upd H D o) D t kv' (dputK ks yd) vv' → RepVs W m L H kv' (dputK ks yd) → RepVs W m L H vv' (dputV ks vs yd zd) → Nx (upd H D o)
section
variable {X : Cx} {pins : List (Addr × Obj)} {σ : _root_.L2.St} {H : Hp} {s : Shared} {D : Addr} {t : Bool} {y z : V} {u r : Value} {Nx : Hp → Prop} {Q : Unit → Shared → Prop} {E : Value → Shared → Prop}
theorem dct_mut {W : Wd} {kv vv : List V} {ks : List Nr.D} (h : DctAt W H D t kv ks vv) : Mut (H D) := by
  cases t with
  | false => obtain ⟨kvs, e, _⟩ := h; rw [e]; exact trivial
  | true => obtain ⟨xs, ob, es, ep, e, _⟩ := h; rw [e]; exact trivial
theorem dputK_len (ks : List Nr.D) (k : Nr.D) : (dputK ks k).length ≤ ks.length + 1 := by
  induction ks with
  | nil => exact Nat.le_refl _
  | cons a ks ih =>
    unfold dputK
    split
    · exact Nat.le_succ _
    · simp only [List.length_cons]
      omega
theorem d_store (hu : X.A.units + 8 < cLine) (I : Inv X pins σ H s) (ry : RelV y u) (rz : RelV z r) (h : StoT (wd X) t D y z H Nx) (q : ∀ s' o, Inv X pins σ (upd H D o) s' → Nx (upd H D o) → Q () s') : wpAny (model X.prog X.w) X.A (dictSet D u r) Q E s := by
  obtain ⟨m, L, ks, vs, kv, vv, yd, zd, hD, rk, rv, ryd, rzd, ko, hl, nx⟩ := h
  have mu := dct_mut hD
  cases t with
  | false =>
    obtain ⟨kvs, eD, e1, e2, nd, ek⟩ := hD
    subst e1 e2
    obtain ⟨k, rfl, hk⟩ := key_flat ko ryd
    obtain ⟨f1, f2, f3⟩ := put_flat hk ryd rzd rk rv ek
    refine d_dictSet I eD (by rw [show kvs.length = ks.length by simpa using rk.length]; exact hl) ry rz fun s' I' => q s' _ I' (nx _ _ _ trivial ?_ f1 f2)
    rw [putR_eq nd]
    exact ⟨_, upd_same, rfl, rfl, (putR_nodup nd).1, f3⟩
  | true =>
    obtain ⟨a, rfl, rfl, hk⟩ := key_at I ryd ry ko
    obtain ⟨xs, hd, hs, hz, rfl, e2, hv, ka, nd⟩ := dn_of I hD rk
    obtain ⟨f1, ⟨vv', f2, f2'⟩, f3, f4⟩ := put_nest ko ryd rzd rz rk rv hv e2 ka
    refine wpAny_dictSet_heap (knd := nk X) hu hk hd (fun h' hd' hb => ?_) hz
    rw [putHR_eq nd] at hd'
    have hlen : (putHR xs (nkey yd) a r).length ≤ sizeLine := by
      have e3 := congrArg List.length f3
      have e4 := congrArg List.length e2
      have e5 := dputK_len ks yd
      simp at e3 e4
      omega
    obtain ⟨o, I', mo, at'⟩ := dn_put I mu hs hd' hb hlen f3 f2' f4
    exact q _ o I' (nx o _ _ mo (at' _ upd_same) f1 f2)
/-- the new dict -/
theorem d_begin (t : Bool) (I : Inv X pins σ H s) (tk : Nat) : ∃ o, Inv X pins σ (upd H s.heap.objs.size o) { s with heap := s.heap.push { cls := .type "dict", data := .dict #[] }, toks := tk } ∧ ∀ H', H' s.heap.objs.size = some o → DctAt (wd X) H' s.heap.objs.size t [] [] [] := by
  cases t with
  | false => exact ⟨.dK [], I.laid (fun b o e => Heap.get?_push_of_some _ e) (Nat.le_refl _) (dk_empty s.heap I.big), fun H' e => ⟨[], e, rfl, rfl, List.nodup_nil, rfl⟩⟩
  | true =>
    obtain ⟨o, I', _, hd⟩ := dn_new (t' := tk) I (fun b o e => Heap.get?_push_of_some _ e) (Heap.get?_push_size _ rfl)
    exact ⟨o, I', hd⟩
end
/-- {k: v for target in iter if ..}: D is the new dict -/
def tDcT (W : Wd) (t : Bool) (wi : TI) (g : TG) (tt : TT) (tk tv : TE) (own : List Nat) : TE := fun σ H Q => wi σ H fun J H1 => ∀ D o, H1 D = none → (∀ H', H' D = some o → DctAt W H' D t [] [] []) → ∃ Z : Nat → Nat → Hp → Prop, (∃ m, Z 0 m (upd H1 D o)) ∧ ∀ i m H, Z i m H →
  (J.stop i H ∧ Q (.ref D) H) ∨ (J.go i H ∧ ∃ Nx : Hp → Prop, (∀ H', Nx H' → ∃ m', m' < m ∧ Z (i + 1) m' H') ∧ ∀ x H', J.yld i H x H' → g x (wipe σ own) H' fun σ2 H2 => wipe σ2 own = wipe σ own ∧ tt σ2 H2 fun b H3 =>
    if b = true then tk σ2 H3 fun y H4 => tv σ2 H4 fun z H5 => StoT W t D y z H5 Nx else Nx H3)
section
variable {X : Cx} {t : Bool} {kx vx tg iter : Expr} {ifs : List Expr} {scope : Scope} {own : List (Str × Nat)} {pos : Pos} {wi : TI} {g : TG} {tt : TT} {tk tv : TE}
/-- one block of names: what is asked of the parts there -/
structure InBlk (X : Cx) (scope : Scope) (tg : Expr) (ifs : List Expr) (kx vx : Expr) (g : TG) (tt : TT) (tk tv : TE) : Prop where
  g : ∀ (s : Shared) (H : Hp) (C : Addr) (cl : List (Str × Addr)) (fp : List Addr), PG (X.blk s H scope (compEnvC scope cl C X.env) fp) tg g
  t : ∀ (s : Shared) (H : Hp) (C : Addr) (cl : List (Str × Addr)) (fp : List Addr), PTs (X.blk s H scope (compEnvC scope cl C X.env) fp) ifs tt
  k : ∀ (s : Shared) (H : Hp) (C : Addr) (cl : List (Str × Addr)) (fp : List Addr), PE (X.blk s H scope (compEnvC scope cl C X.env) fp) kx tk
  v : ∀ (s : Shared) (H : Hp) (C : Addr) (cl : List (Str × Addr)) (fp : List Addr), PE (X.blk s H scope (compEnvC scope cl C X.env) fp) vx tv
/-- one turn of the loop, in its block -/
theorem dct_turn {s0 : Shared} {H0 : Hp} {ce : Env} {it : Addr} {fp : List Addr} {tn : Nat → Heap → Prop} {J : It} {σ : _root_.L2.St} {H : Hp} {s : Shared} {D : Addr} {own : List Nat} {Nx : Hp → Prop} {i : Nat} {R : Shared → Prop} {R0 : Shared → Prop} {F : Value → Shared → Prop} (hu : X.A.units + 8 < cLine) (hc : X.calm = true) (T : Turn X.prog X.w X.K tg J fp it tn)
    (pg : PG (X.blk s0 H0 scope ce fp) tg g) (pt : PTs (X.blk s0 H0 scope ce fp) ifs tt) (pk : PE (X.blk s0 H0 scope ce fp) kx tk) (pv : PE (X.blk s0 H0 scope ce fp) vx tv) (I : Inv (X.blk s0 H0 scope ce fp) [] (wipe σ own) H s) (st : tn i s.heap)
    (fo : ∀ {σ' : _root_.L2.St} {H' : Hp} {s' : Shared}, Inv (X.blk s0 H0 scope ce fp) [] σ' H' s' → (∀ b ∈ fp, H' b = none) → ∀ b ∈ fp, FpOk (X.blk s0 H0 scope ce fp) [] H' b) (fn : ∀ b ∈ fp, H b = none) (go : J.go i H)
    (step : ∀ x H', J.yld i H x H' → g x (wipe σ own) H' fun σ2 H2 => wipe σ2 own = wipe σ own ∧ tt σ2 H2 fun b H3 => if b = true then tk σ2 H3 fun y H4 => tv σ2 H4 fun z H5 => StoT (wd X) t D y z H5 Nx else Nx H3)
    (hR : ∀ H' s', Inv (X.blk s0 H0 scope ce fp) [] (wipe σ own) H' s' → tn (i + 1) s'.heap → (∀ b ∈ fp, H' b = none) → Nx H' → R s') :
    wpAny (model X.prog X.w) X.A (pyNext (.ref it)) (fun r s1 => match r with
      | none => R0 s1
      | some v => wpAny (model X.prog X.w) X.A (letOwnedTupleGo tg (.ref it) v) (fun _ s2 => wpAny (model X.prog X.w) X.A (assign tg ce v) (fun _ s3 => wpAny (model X.prog X.w) X.A (forIn ifs true fun c r => if r = true then do let ok ← isTrue c ce (eval c ce); pure (ForInStep.yield ok) else pure (ForInStep.yield r)) (fun ok s4 =>
        if ok = true then wpAny (model X.prog X.w) X.A (eval kx ce) (fun a s5 => wpAny (model X.prog X.w) X.A (eval vx ce) (fun b s6 => wpAny (model X.prog X.w) X.A (dictSet D a b) (fun _ s7 => R s7) F s6) F s5) F s4 else R s4) F s3) F s2) F s1) F s := by
  refine thnF (T.item (X.blk s0 H0 scope ce fp) rfl rfl rfl hc i [] s _ H (fun _ _ => False) I (fo I fn) st go) fun ro s1 ⟨u, hr, h1⟩ => ?_
  subst hr
  refine thnF h1 fun _ s2 ⟨x, H2, I2, r2, y2, st2, n2⟩ => ?_
  have J2 := I2.pinned (fo I2 n2) (T.obj _ _ st2)
  -- what is pinned stays
  have back : ∀ {σ' : _root_.L2.St} {s' : Shared} {H' : Hp}, wipe σ' own = wipe σ own → Inv (X.blk s0 H0 scope ce fp) ([] ++ pinsAt fp s2.heap) σ' H' s' → Nx H' → R s' := fun {σ' s' H'} hw I' nx => by
    have stay : ∀ b ∈ fp, ∀ o, s2.heap.get? b = some o → s'.heap.get? b = some o ∧ H' b = none := fun b hb o e => by
      have p := I'.pin (b, o) (List.mem_append_right _ (List.mem_append_right _ (mem_pinsAt hb e)))
      exact ⟨p.1, p.2.1⟩
    refine hR H' s' ((I'.unpinned (pins := [])).weak (by rw [← hw, wipe_length]) fun j v e => ?_) (T.keep _ _ _ st2 fun b hb o e => (stay b hb o e).1) (fun b hb => ?_) nx
    · rw [← hw] at e
      exact (wipe_some e).1
    · obtain ⟨o, e, _⟩ := T.obj _ _ st2 b hb
      exact (stay b hb o e).2
  refine thnF (pg.run _ s2 _ H2 x u _ J2 r2 (step x H2 y2)) fun _ s3 ⟨σ3, H3, I3, hw, q3⟩ => ?_
  refine thnF (pt.run _ s3 σ3 H3 _ I3 q3) fun b s4 ⟨H4, I4, q4⟩ => ?_
  cases b with
  | false => exact back hw I4 q4
  | true =>
    refine thnF (pk.run _ s4 σ3 H4 _ I4 q4) fun a s5 ⟨ya, H5, I5, r5, q5⟩ => ?_
    refine thnF (pv.run _ s5 σ3 H5 _ I5 q5) fun c s6 ⟨yc, H6, I6, r6, q6⟩ => ?_
    exact d_store (X := X.blk s0 H0 scope ce fp) hu I6 r5 r6 q6 fun s7 o I7 nx => back hw I7 nx
/-- the whole block -/
theorem dct_blk {pins : List (Addr × Obj)} {s : Shared} {σ : _root_.L2.St} {H : Hp} {Q : VK} {pos' : Pos} {use : Option (Value → Sem Unit)} {Qf : Value → Shared → Prop} (hu : X.A.units + 8 < cLine) (hc : X.calm = true) (hN : X.N.Nodup) (I : Inv X pins σ H s) (hi : PI X tg iter wi) (ok : BlkOk X.N X.env.scope scope own)
    (P : InBlk X scope tg ifs kx vx g tt tk tv) (hs : ∀ x, foldedSetIterable iter X.env x = pure x) (h : tDcT (wd X) t wi g tt tk tv (own.map (·.2)) σ H Q)
    (fin : ∀ D C s' m H', Inv X pins σ H' s' → Q (.ref D) H' → s'.heap.Ns C m → FpOk X pins H' C → compPost (model X.prog X.w) X.A X.xe use Qf (.ref D) C (.ok .next) s') :
    wpAny (model X.prog X.w) X.A (comprehension (.DictComp kx vx [⟨tg, iter, ifs, 0⟩] scope pos) scope X.env pos' newDict false (eval iter X.env) use) Qf X.xe s := by
  have fr : ∀ y ∈ scope.names, y.2 = .free → ∃ c, X.env.cells.lookup y.1 = some c := fun y hy e => I.ok.has _ (ok.free y hy e)
  refine wpAny_comprehension_free (use := use) rfl hs (closure_ok fr) ok.kind (fun y hy e => e ▸ ok.uniq y hy) (thn (hi.run pins s σ H _ I h) fun xv s1 hx => thn hx fun itv s2 hit => ?_)
  obtain ⟨it, fp, tn, J, H2, rfl, I2, T, st2, f2, q⟩ := hit
  obtain ⟨o, I3, hD⟩ := d_begin (t := t) I2 s2.toks
  obtain ⟨Z, ⟨m0, z0⟩, turn⟩ := q s2.heap.objs.size o (I2.hok.fresh (Nat.le_refl _)) hD
  refine wpAny_newObj_type (newEnv_comp ?_)
  have below : ∀ b ∈ fp, b < s2.heap.objs.size := fun b hb => let ⟨_, e, _⟩ := T.obj _ _ st2 b hb; Heap.lt_size e
  have st3 := T.keep _ _ _ st2 (fun b _ o e => Heap.get?_push_of_some { cls := .type "dict", data := .dict #[] } e)
  have f3 : ∀ b ∈ fp, FpOk X pins (upd H2 s2.heap.objs.size o) b ∧ b < (s2.heap.push { cls := .type "dict", data := .dict #[] }).objs.size := fun b hb => by
    refine ⟨⟨?_, (f2 b hb).2⟩, by rw [Heap.size_push]; exact Nat.lt_succ_of_lt (below b hb)⟩
    rw [upd_ne (Nat.ne_of_lt (below b hb))]
    exact (f2 b hb).1
  have I4 := block_start I3 ok hN f3
  generalize upd H2 s2.heap.objs.size o = H3 at *
  generalize hs3 : ({ s2 with heap := s2.heap.push { cls := .type "dict", data := .dict #[] } } : Shared) = s3 at *
  have e3 : s2.heap.push { cls := .type "dict", data := .dict #[] } = s3.heap := by rw [← hs3]
  rw [e3] at st3 f3
  generalize hcl : cellsFrom (s3.heap.objs.size + 1) scope.names (cloFrom X.env.cells scope.names []) = cl at I4
  generalize hD0 : s2.heap.objs.size = D at *
  show codeAny _ _ (.compStart (.DictComp kx vx [⟨tg, iter, ifs, 0⟩] scope pos) 0 (.ref it) (.ref D) (compEnvC scope cl s3.heap.objs.size X.env)) (compPost (model X.prog X.w) X.A X.xe use Qf (.ref D) s3.heap.objs.size) { s3 with heap := pushCells (s3.heap.push { cls := .type "dict", data := .dict #[] }) scope.names }
  have pg := P.g s3 H3 s3.heap.objs.size cl fp
  have pt := P.t s3 H3 s3.heap.objs.size cl fp
  have pk := P.k s3 H3 s3.heap.objs.size cl fp
  have pv := P.v s3 H3 s3.heap.objs.size cl fp
  have cL : (compEnvC scope cl s3.heap.objs.size X.env).locals = s3.heap.objs.size := rfl
  generalize compEnvC scope cl s3.heap.objs.size X.env = ce at I4 pg pt pk pv cL ⊢
  have st4 : tn 0 (pushCells (s3.heap.push { cls := .type "dict", data := .dict #[] }) scope.names) := T.keep _ _ _ st3 fun b _ o e => pushCells_keeps _ _ _ _ (Heap.get?_push_of_some _ e)
  have fo : ∀ {σ' : _root_.L2.St} {H' : Hp} {s' : Shared}, Inv (X.blk s3 H3 scope ce fp) [] σ' H' s' → (∀ b ∈ fp, H' b = none) → ∀ b ∈ fp, FpOk (X.blk s3 H3 scope ce fp) [] H' b := fun {σ' H' s'} I' n b hb =>
    ⟨n b hb, (I'.ok.exf b hb).1, I'.ok.exfs b hb, .inl hb, (I'.ok.exf b hb).2, fun p hp => nomatch (show p ∈ ([] : List (Addr × Obj)) from hp)⟩
  have loop : codeAny (model X.prog X.w) X.A (.compLoop (.DictComp kx vx [⟨tg, iter, ifs, 0⟩] scope pos) 0 (.ref it) (.ref D) ce) (compPost (model X.prog X.w) X.A X.xe use Qf (.ref D) s3.heap.objs.size) { s3 with heap := pushCells (s3.heap.push { cls := .type "dict", data := .dict #[] }) scope.names } := by
    refine compLoop_anyD (fun n s' => ∃ i H', Inv (X.blk s3 H3 scope ce fp) [] (wipe σ (own.map (·.2))) H' s' ∧ tn i s'.heap ∧ (∀ b ∈ fp, H' b = none) ∧ Z i n H') ?_ m0 ⟨0, H3, I4, st4, fun b hb => (f3 b hb).1.1, z0⟩
    rintro n s5 ⟨i, H5, I5, st5, n5, z5⟩
    rcases turn i n H5 z5 with ⟨stop, qq⟩ | ⟨go, Nx, hNx, step⟩
    · refine thnF (T.done (X.blk s3 H3 scope ce fp) rfl rfl rfl hc i [] s5 _ H5 (fun _ _ => False) I5 (fo I5 n5) st5 stop) fun r s6 ⟨hr, I6⟩ => ?_
      subst hr
      have I7 : Inv X pins σ H5 s6 := I3.call' (ch := fp) I6.os I6.base I6.hok I6.bare fun b hb => let f := (f3 b hb).1; ⟨f.2.2.2.1, f.2.1, f.2.2.2.2.1, f.2.2.2.2.2⟩
      have z : H5 ce.locals = none := I6.free
      obtain ⟨m, hn, _⟩ := I6.loc
      have hn : s6.heap.Ns ce.locals m := hn
      rw [cL] at hn z
      exact fin D s3.heap.objs.size s6 m H5 I7 qq hn (I3.fpOk (Nat.le_refl _) z)
    · refine dct_turn (t := t) hu hc T pg pt pk pv I5 st5 fo n5 go step fun H' s' I' st' n' nx => ?_
      obtain ⟨m', hm, z'⟩ := hNx H' nx
      exact ⟨m', hm, i + 1, H', I', st', n', z'⟩
  exact codeAny_compStart_dict loop (T.self X.A 0 _ _ _ st4 loop)
/-- as a value -/
theorem pe_dcT (hu : X.A.units + 8 < cLine) (hc : X.calm = true) (hN : X.N.Nodup) (hi : PI X tg iter wi) (ok : BlkOk X.N X.env.scope scope own) (P : InBlk X scope tg ifs kx vx g tt tk tv) (hs : ∀ x, foldedSetIterable iter X.env x = pure x) :
    PE X (.DictComp kx vx [⟨tg, iter, ifs, 0⟩] scope pos) (tDcT (wd X) t wi g tt tk tv (own.map (·.2))) := by
  refine ⟨fun pins s σ H Q I h => ?_⟩
  rw [arm_eval_DictComp]
  refine dct_blk hu hc hN I hi ok P hs h fun D C s' m H' I' q hn ⟨f0, f1, f2, f3, f4, f5⟩ => ⟨m, hn, fun h'' sb => ?_⟩
  exact ⟨.ref D, H', I'.turned (t' := s'.toks) (fun b o hb e => (sb.2 b hb).trans e) f0 f1 f3 f4 f5, rfl, q⟩
/-- name = {..} on one line -/
theorem ps_setDcT {i : Nat} {y : Str} {py spos : Pos} (hu : X.A.units + 8 < cLine) (hc : X.calm = true) (hN : X.N.Nodup) (hy : X.N[i]? = some y) (hl : X.env.scope.names.lookup y = some .local) (hsw : swapsWith (.DictComp kx vx [⟨tg, iter, ifs, 0⟩] scope pos) (some (.Name y py)) spos.line X.env = pure true)
    (hi : PI X tg iter wi) (ok : BlkOk X.N X.env.scope scope own) (P : InBlk X scope tg ifs kx vx g tt tk tv) (hs : ∀ x, foldedSetIterable iter X.env x = pure x) :
    PS X (.Assign [.Name y py] (.DictComp kx vx [⟨tg, iter, ifs, 0⟩] scope pos) spos) (tAsg (tDcT (wd X) t wi g tt tk tv (own.map (·.2))) (gName i)) := by
  refine ⟨fun pins s σ H N I h => ?_⟩
  have h : tDcT (wd X) t wi g tt tk tv (own.map (·.2)) σ H (fun x H1 => gName i x σ H1 N.nx) := h
  rw [exec_Assign_Name_used _ _ _ _ hsw]
  refine wpAny_bind (wpAny_standAt (wpAny_bind (thn (Q := fun _ s' => SP X pins N .next s') ?_ fun _ s' hq => wpAny_pure hq)))
  refine wpAny_bind (thn (dct_blk (pos' := firstIterPos [⟨tg, iter, ifs, 0⟩] pos) (use := some (assign (.Name y py) X.env)) (Qf := fun _ s' => SP X pins N .next s') hu hc hN I hi ok P hs h fun D C s' m H' I' q hn ⟨f0, f1, f2, f3, f4, f5⟩ => ?_) fun _ s' hq => wpAny_pure hq)
  refine wpAny_assign_Name (store_ok2 (v := V.ref D) I' hN hy (.inl hl) rfl (fun s2 I2 ⟨a, sb, ha⟩ => ?_) (.inr hl))
  refine ⟨m, hn.sameBut sb (ha.elim (fun z => z ▸ f1) fun z e => f4 y a z e.symm), fun h3 sb3 => ?_⟩
  exact ⟨_, H', I2.turned (t' := s2.toks) (fun b o hb e => (sb3.2 b hb).trans e) f0 f1 f3 f4 f5, q⟩
end
section
variable {W : Wd} {B : Option En} {ds : Ds} {σ : _root_.L2.St} {H : Hp} {t : Bool}
theorem dcT_of {ti : TDi} {g : IG} {tif : TDt} {tk tv : TD} {own : List Nat} {Q : VK} (hs : ∀ i ∈ g.slots, i ∈ own)
    (h : lFD W B (fun ds L Q => ti ds L fun s L1 => dcR t s (fun x L2 k => semG g x (wipeD ds own) fun ds2 => tif ds2 L2 fun b L3 => if b = true then tk ds2 L3 fun y L4 => tv ds2 L4 fun z L5 => k (some (y, z)) L5 else k none L3) (fun ks vs L => Q t ks vs L) s.items [] [] L1) σ H Q) :
    tDcT W t (lI W B ti) (lG W none g.slots (semG g)) (lIf W none tif) (lE W none tk) (lE W none tv) own σ H Q := by
  obtain ⟨m, L, ds, Qd, S, q, c⟩ := h
  refine ⟨m, L, ds, _, S, q, fun s L1 m1 H1 J q1 st1 rl1 wk D o hD hD' => ?_⟩
  have n0 : NewD W m1 L1 H1 (m1.res D) L1 (upd H1 D o) D t [] [] := newD_upd (kv := []) (vv := []) rl1 Step.refl rl1 hD (hD' _ upd_same) .nil .nil
  refine ⟨fun i n H' => ∃ m' L' ks vs, n = s.items.length - i ∧ i ≤ s.items.length ∧ NewD W m1 L1 H1 m' L' H' D t ks vs ∧ dcR t s _ _ (s.items.drop i) ks vs L', ⟨_, m1.res D, L1, [], [], rfl, Nat.zero_le _, n0, by rw [List.drop_zero]; exact q1⟩, ?_⟩
  rintro i n H' ⟨m', L', ks, vs, rfl, hi, n, q⟩
  by_cases hlt : i < s.items.length
  · rw [List.drop_eq_getElem_cons hlt] at q
    obtain ⟨ok, q⟩ := q
    obtain ⟨g1, g2⟩ := wk.go i _ m' L' H' (List.getElem?_eq_getElem hlt) n.st.wk n.rl ok
    refine .inr ⟨g1, fun H2 => ∃ m' L' ks vs, NewD W m1 L1 H1 m' L' H2 D t ks vs ∧ dcR t s _ _ (s.items.drop (i + 1)) ks vs L', fun H2 ⟨m2, L2, ks2, vs2, n2, q2⟩ => ⟨_, by omega, m2, L2, ks2, vs2, rfl, hlt, n2, q2⟩, fun x H2 y => ?_⟩
    obtain ⟨nx, r⟩ := g2 x H2 y
    have n2 := n.go nx.st nx.rl
    refine ⟨m', L', _, _, _, (S.nx st1 rl1).wipe n2.st.wk n2.rl own, r, q, fun ds' σ' q' S3 b => ⟨wipe_but hs b, m', L', ds', _, S3, q', fun bb L3 m3 H3 q3 st3 rl3 => ?_⟩⟩
    have n3 := n2.go st3 rl3
    cases bb with
    | false => exact ⟨m3, L3, ks, vs, n3, by simpa using q3⟩
    | true =>
      have S4 := S3.nx st3 rl3
      refine ⟨m3, L3, ds', _, S4, (if_pos rfl ▸ q3 : _), fun y L4 v m4 H4 q4 st4 rl4 rv => ⟨m4, L4, ds', _, S4.nx st4 rl4, q4, fun z L5 u m5 H5 q5 st5 rl5 ru => ?_⟩⟩
      have n5 := (n3.go st4 rl4).go st5 rl5
      obtain ⟨kv, vv, hD5, h2, h3⟩ := n5.at_
      obtain ⟨⟨ky, hl⟩, q5⟩ := q5
      exact ⟨m5, L5, ks, vs, kv, vv, y, z, hD5, h2, h3, rv.step st5, ru, ky, hl, fun o kv' vv' _ hd rk rvs => ⟨m5, L5, dputK ks y, dputV ks vs y z, n5.put hd rk rvs, q5⟩⟩
  · have e : i = s.items.length := by omega
    subst e
    rw [List.drop_length] at q
    exact .inl ⟨wk.stop m' L' H' n.st.wk n.rl q.1, c t ks vs L' m' H' D q.2 (n.pre S.rl st1)⟩
end
section
variable {Φ : Phi} {B : Option En} {E : XS} {k : Nat} {Γ : Gm} {X : Cx} {tg it kx vx : Expr} {pos : Pos} {scope : Scope} {t : Bool}
/-- what a dict comprehension's parts are, in the block -/
theorem inBlk {ifs : List Expr} {g : IG} {tif : TDt} {tk tv : TD} (G : Good Φ B E k Γ X) (hg : chkG (Γ.blk scope) g tg = true)
    (ht : ∀ X', wd X' = wd X → Good Φ none NoX k (Γ.blk scope) X' → PTs X' ifs (lIf (wd X) none tif)) (hk : ∀ X', wd X' = wd X → Good Φ none NoX k (Γ.blk scope) X' → DE X' (wd X) none kx tk) (hv : ∀ X', wd X' = wd X → Good Φ none NoX k (Γ.blk scope) X' → DE X' (wd X) none vx tv) :
    InBlk X scope tg ifs kx vx (lG (wd X) none g.slots (semG g)) (lIf (wd X) none tif) (lE (wd X) none tk) (lE (wd X) none tv) :=
  ⟨fun s H C cl fp => g_ok (G.blk s H C cl fp) g tg hg, fun s H C cl fp => ht _ rfl (G.blk s H C cl fp), fun s H C cl fp => hk _ rfl (G.blk s H C cl fp), fun s H C cl fp => hv _ rfl (G.blk s H C cl fp)⟩
theorem f_dcT {own : List Nat} {ifs : List Expr} {g : IG} {ti : TDi} {tif : TDt} {tk tv : TD} (G : Good Φ B E k Γ X) (hb : blkC Γ.N Γ.sc scope (own.map fun i => (Γ.N.getD i Str.empty, i)) = true) (hi : DI X (wd X) B tg it ti) (hf : ∀ x, foldedSetIterable it X.env x = pure x) (hg : chkG (Γ.blk scope) g tg = true) (hs : (g.slots.all own.contains) = true)
    (ht : ∀ X', wd X' = wd X → Good Φ none NoX k (Γ.blk scope) X' → PTs X' ifs (lIf (wd X) none tif)) (hk : ∀ X', wd X' = wd X → Good Φ none NoX k (Γ.blk scope) X' → DE X' (wd X) none kx tk) (hv : ∀ X', wd X' = wd X → Good Φ none NoX k (Γ.blk scope) X' → DE X' (wd X) none vx tv) :
    DFD X (wd X) B (.DictComp kx vx [⟨tg, it, ifs, 0⟩] scope pos) (fun ds L Q => ti ds L fun s L1 => dcR t s (fun x L2 k => semG g x (wipeD ds own) fun ds2 => tif ds2 L2 fun b L3 => if b = true then tk ds2 L3 fun y L4 => tv ds2 L4 fun z L5 => k (some (y, z)) L5 else k none L3) (fun ks vs L => Q t ks vs L) s.items [] [] L1) := by
  have ok : BlkOk X.N X.env.scope scope (own.map fun i => (Γ.N.getD i Str.empty, i)) := by rw [G.N, G.sc]; exact blkOk_by hb
  refine peI (pe_dcT (t := t) (by have := G.units; omega) G.calm G.ndX hi ok (inBlk G hg ht hk hv) hf) fun σ H Q h => ?_
  rw [own_map]
  exact dcT_of (fun i hi => by simpa using List.all_eq_true.mp hs i hi) h
theorem f_dnilT : DFD X (wd X) B (.Dict [] [] pos) (fun _ L Q => Q t [] [] L) := ⟨fun pins s σ H Q I ⟨m, L, ds, Qd, S, q, c⟩ => by
  obtain ⟨o, I', hd⟩ := d_begin (t := t) I s.toks
  exact wpAny_Dict_empty ⟨.ref s.heap.objs.size, _, I', rfl, c t [] [] L _ _ _ q (newD_upd (kv := []) (vv := []) S.rl Step.refl S.rl (I.hok.fresh (Nat.le_refl _)) (hd _ upd_same) .nil .nil)⟩⟩
end
end Nr

/-! What dicts hold: in, [..], stores. -/
namespace Nr
open PySem PySem.Spec PyProof.Rows L2
/-- what a dict's keys and values say of one key -/
theorem get_flat {W : Wd} {m : Nb} {L : Hl} {H : Hp} {y : Nr.D} {k : Key} (hy : fkey y = some k) : ∀ {kvs : List (Key × V)} {ks vs : List Nr.D}, ks.map fkey = kvs.map (fun p => some p.1) → RepVs W m L H (kvs.map (·.2)) vs →
    dhas ks y = (valV kvs k).isSome ∧ ∀ z, dget ks vs y = some z → ∃ v, valV kvs k = some v ∧ RepV W m L H v z
  | [], [], _, _, .nil => ⟨rfl, fun z h => by simp [dget] at h⟩
  | p :: kvs, a :: ks, _, e, .cons r1 t1 => by
    simp only [List.map_cons, List.cons.injEq] at e
    obtain ⟨e1, e2⟩ := e
    obtain ⟨h1, h2⟩ := get_flat hy e2 t1
    have hq := keq_flat e1 hy
    by_cases h : p.1 = k
    · rw [valV_pos h]
      refine ⟨by simp [dhas, hq, h], fun z hz => ?_⟩
      unfold dget at hz
      rw [hq, decide_eq_true h, if_pos rfl] at hz
      cases hz
      exact ⟨_, rfl, r1⟩
    · rw [valV_neg h]
      refine ⟨by rw [← h1]; simp [dhas, hq, h], fun z hz => ?_⟩
      unfold dget at hz
      rw [hq, decide_eq_false h, if_neg Bool.false_ne_true] at hz
      exact h2 z hz
theorem atKey_pos {x : NestedKey × Addr × Value} {r : List (NestedKey × Addr × Value)} {k : NestedKey} (e : x.1 = k) : atKey (x :: r) k = some x.2 := by simp [atKey, e]
theorem atKey_neg {x : NestedKey × Addr × Value} {r : List (NestedKey × Addr × Value)} {k : NestedKey} (e : ¬ x.1 = k) : atKey (x :: r) k = atKey r k := by simp [atKey, e]
theorem get_nest {W : Wd} {m : Nb} {L : Hl} {H : Hp} {y : Nr.D} : ∀ {xs : List (NestedKey × Addr × Value)} {ks vs : List Nr.D} {vv : List V}, ks.map nkey = xs.map (·.1) → RepVs W m L H vv vs → Vals vv (xs.map (·.2.2)) →
    dhas ks y = (atKey xs (nkey y)).isSome ∧ ∀ z, dget ks vs y = some z → ∃ p v, atKey xs (nkey y) = some p ∧ RelV v p.2 ∧ RepV W m L H v z
  | [], [], _, _, _, .nil, .nil => ⟨rfl, fun z h => by simp [dget] at h⟩
  | x :: xs, a :: ks, _, _, e, .cons r1 t1, .cons r2 t2 => by
    simp only [List.map_cons, List.cons.injEq] at e
    obtain ⟨e1, e2⟩ := e
    obtain ⟨h1, h2⟩ := get_nest (y := y) e2 t1 t2
    have hq : keq a y = decide (x.1 = nkey y) := by unfold keq; rw [e1]
    by_cases h : x.1 = nkey y
    · rw [atKey_pos h]
      refine ⟨by simp [dhas, hq, h], fun z hz => ?_⟩
      unfold dget at hz
      rw [hq, decide_eq_true h, if_pos rfl] at hz
      cases hz
      exact ⟨_, _, rfl, r2, r1⟩
    · rw [atKey_neg h]
      refine ⟨by rw [← h1]; simp [dhas, hq, h], fun z hz => ?_⟩
      unfold dget at hz
      rw [hq, decide_eq_false h, if_neg Bool.false_ne_true] at hz
      exact h2 z hz
/-- the dict at v, a key at x -/
structure DctK (W : Wd) (H : Hp) (v x : V) (t : Bool) (m : Nb) (L : Hl) (p : Addr) (kv vv : List V) (ks vs : List Nr.D) (xd : Nr.D) : Prop where
  v : v = .ref p
  d : DctAt W H p t kv ks vv
  rk : RepVs W m L H kv ks
  rv : RepVs W m L H vv vs
  x : RepV W m L H x xd
  ok : keyOk t xd = true
def rInC (W : Wd) (neg : Bool) : R2 := fun x y H Q => ∃ t m L p kv vv ks vs xd, DctK W H y x t m L p kv vv ks vs xd ∧ Q (.bl (dhas ks xd != neg)) H
def rGetC (W : Wd) : R2 := fun x y H Q => ∃ t m L p kv vv ks vs xd z, DctK W H x y t m L p kv vv ks vs xd ∧ dget ks vs xd = some z ∧ ∀ v, RepV W m L H v z → Q v H
section
variable {X : Cx}
theorem op_inC (hu : X.A.units + 10 < cLine) : OpR X (compareOp .In) (rInC (wd X) false) := by
  intro pins s σ H x y v u Q I rx ry h
  obtain ⟨t, m, L, p, kv, vv, ks, vs, xd, ⟨rfl, hd, rk, rv, rxd, ok⟩, q⟩ := h
  cases ry
  cases t with
  | false =>
    obtain ⟨kvs, eD, rfl, rfl, nd, ek⟩ := hd
    obtain ⟨k, rfl, hk⟩ := key_flat ok rxd
    refine d_in (by omega) I (DGet.k eD) rx fun s' I' => ⟨.bl _, H, I', rfl, ?_⟩
    rw [← (get_flat hk ek rv).1]
    simpa using q
  | true =>
    obtain ⟨a, rfl, rfl, hk⟩ := key_at I rxd rx ok
    obtain ⟨xs, hD, hs, hz, rfl, e2, hv, ka, nd⟩ := dn_of I hd rk
    refine wpAny_in_heap (knd := nk X) (show X.A.units + 1 + 8 < cLine by omega) hk hs hD ⟨.bl _, H, I.tok _, rfl, ?_⟩
    rw [← (get_nest e2 rv hv).1]
    simpa using q
theorem op_notInC (hu : X.A.units + 10 < cLine) : OpR X (compareOp .NotIn) (rInC (wd X) true) := by
  intro pins s σ H x y v u Q I rx ry h
  obtain ⟨t, m, L, p, kv, vv, ks, vs, xd, ⟨rfl, hd, rk, rv, rxd, ok⟩, q⟩ := h
  cases ry
  cases t with
  | false =>
    obtain ⟨kvs, eD, rfl, rfl, nd, ek⟩ := hd
    obtain ⟨k, rfl, hk⟩ := key_flat ok rxd
    refine d_notIn (by omega) I (DGet.k eD) rx fun s' I' => ⟨.bl _, H, I', rfl, ?_⟩
    rw [← (get_flat hk ek rv).1]
    simpa using q
  | true =>
    obtain ⟨a, rfl, rfl, hk⟩ := key_at I rxd rx ok
    obtain ⟨xs, hD, hs, hz, rfl, e2, hv, ka, nd⟩ := dn_of I hd rk
    refine wpAny_notIn_heap (knd := nk X) (show X.A.units + 1 + 8 < cLine by omega) hk hs hD ⟨.bl _, H, I.tok _, rfl, ?_⟩
    rw [← (get_nest e2 rv hv).1]
    simpa using q
theorem ix_dct (hu : X.A.units + 10 < cLine) : IxR X (rGetC (wd X)) := by
  intro value slice pins s σ H x y v u Q I rx ry h hs
  obtain ⟨t, m, L, p, kv, vv, ks, vs, xd, z, ⟨rfl, hd, rk, rv, rxd, ok⟩, hz, q⟩ := h
  cases rx
  cases t with
  | false =>
    obtain ⟨kvs, eD, rfl, rfl, nd, ek⟩ := hd
    obtain ⟨k, rfl, hk⟩ := key_flat ok rxd
    obtain ⟨w, hw, rw'⟩ := (get_flat hk ek rv).2 z hz
    have g : DGet H p (kV k) (some w) := hw ▸ DGet.k eD
    exact tail_any (dict_typeIs I g) slot_dict_getitem.lookup (d_getItem (by omega) I g ry fun w' s' I' r' => ⟨w, H, I', r', q w rw'⟩) hs
  | true =>
    obtain ⟨a, rfl, rfl, hk⟩ := key_at I rxd ry ok
    obtain ⟨xs, hD, hss, hzz, rfl, e2, hv, ka, nd⟩ := dn_of I hd rk
    obtain ⟨pp, w, hp, r1, r2⟩ := (get_nest e2 rv hv).2 z hz
    exact tail_any hD.typeIs slot_dict_getitem.lookup (wpAny_getItem_heap (knd := nk X) (show X.A.units + 1 + 8 < cLine by omega) hk hD hp ⟨w, H, I.tok _, r1, q w r2⟩) hs
/-- d[k] = v -/
def rSetC (W : Wd) : V → V → V → Hp → (Hp → Prop) → Prop := fun o i v H Q => ∃ p t, o = .ref p ∧ StoT W t p i v H Q
theorem set_dct (hu : X.A.units + 10 < cLine) : PSet X (rSetC (wd X)) := by
  intro pins s σ H o i v ov iv u Q I ro ri rv h
  obtain ⟨p, t, rfl, h⟩ := h
  cases ro
  obtain ⟨m, L, ks, vs, kv, vv, yd, zd, hD, rk, rvs, ryd, rzd, ko, hl, nx⟩ := h
  have mu := dct_mut hD
  cases t with
  | false =>
    obtain ⟨kvs, eD, rfl, rfl, nd, ek⟩ := hD
    obtain ⟨k, rfl, hk⟩ := key_flat ko ryd
    obtain ⟨f1, f2, f3⟩ := put_flat hk ryd rzd rk rvs ek
    refine d_setItem (by omega) I (DPut.k eD (by rw [show kvs.length = ks.length by simpa using rk.length]; exact hl)) ri rv fun s' I' => ⟨_, I', nx _ _ _ trivial ?_ f1 f2⟩
    rw [putR_eq nd]
    exact ⟨_, upd_same, rfl, rfl, (putR_nodup nd).1, f3⟩
  | true =>
    obtain ⟨a, rfl, rfl, hk⟩ := key_at I ryd ri ko
    obtain ⟨xs, hd, hs, hz, rfl, e2, hv, ka, nd⟩ := dn_of I hD rk
    obtain ⟨f1, ⟨vv', f2, f2'⟩, f3, f4⟩ := put_nest ko ryd rzd rv rk rvs hv e2 ka
    refine wpAny_setItem_heap (knd := nk X) (show X.A.units + 1 + 8 < cLine by omega) hk hd (fun h' hd' hb => ?_) hz
    rw [putHR_eq nd] at hd'
    have hlen : (putHR xs (nkey yd) a u).length ≤ sizeLine := by
      have e3 := congrArg List.length f3
      have e4 := congrArg List.length e2
      have e5 := dputK_len ks yd
      simp at e3 e4
      omega
    obtain ⟨o, I', mo, at'⟩ := dn_put I mu hs hd' hb hlen f3 f2' f4
    exact ⟨_, I', nx o _ _ mo (at' _ upd_same) f1 f2⟩
end
section
variable {X : Cx} {W : Wd}
/-! ### membership, items -/
def rIn2 (W : Wd) : R2 := fun x y H Q => (rInD W.K x y H Q ∨ rInT W.K x y H Q) ∨ rInC W false x y H Q
def rNotIn2 (W : Wd) : R2 := fun x y H Q => (rNotInD W.K x y H Q ∨ rNotInT W.K x y H Q) ∨ rInC W true x y H Q
theorem or_in (hu : X.A.units + 65 < cLine) : OpR X (compareOp .In) (rIn2 (wd X)) := ((op_inD hu).or (op_inT hu)).or (op_inC (by omega))
theorem or_notin (hu : X.A.units + 65 < cLine) : OpR X (compareOp .NotIn) (rNotIn2 (wd X)) := ((op_notInD hu).or (op_notInT hu)).or (op_notInC (by omega))
theorem c_in : Op2 W (rIn2 W) (cmpK .isin) := by
  intro m L H x y v u Q Qd rl rv ru h k
  unfold cmpK at h
  dsimp only at h
  split at h
  · rename_i xs ey
    obtain ⟨⟨h1, h2⟩, h⟩ := h
    obtain ⟨rfl, _⟩ := res_tup ru ey
    obtain ⟨a1, a2, a3⟩ := dp_of rv 60 h1
    obtain ⟨b1, b2, b3⟩ := dp_of ru 60 h2
    refine .inl (.inr ⟨_, toP.toPs xs, a1, b1, shaped_of a2 a3 (by decide), shaped_of b2 b3 (by decide), ?_⟩)
    rw [any_toPs]
    exact k _ _ _ h (Nx.refl rl) (.bl _)
  · rename_i xs ey
    obtain ⟨⟨h1, h2⟩, h⟩ := h
    obtain ⟨a1, a2, a3⟩ := dp_of rv 60 h1
    rw [← ey] at h2
    obtain ⟨b1, b2, b3⟩ := dp_res rl ru h2
    rw [ey] at b1 b2 b3
    refine .inl (.inl ⟨_, toP.toPs xs, a1, b1, shaped_of a2 a3 (by decide), shaped_of b2 b3 (by decide), ?_⟩)
    rw [any_toPs]
    exact k _ _ _ h (Nx.refl rl) (.bl _)
  · rename_i t ks vs ey
    obtain ⟨ko, h⟩ := h
    obtain ⟨p, kv, vv, rfl, h1, h2, h3⟩ := res_dct rl ru ey
    exact .inr ⟨t, m, L, p, kv, vv, ks, vs, x, ⟨rfl, h1, h2, h3, rv, ko⟩, k _ _ _ (by simpa using h) (Nx.refl rl) (.bl _)⟩
  · exact h.elim
theorem c_notin : Op2 W (rNotIn2 W) (cmpK .notin) := by
  intro m L H x y v u Q Qd rl rv ru h k
  unfold cmpK at h
  dsimp only at h
  split at h
  · rename_i xs ey
    obtain ⟨⟨h1, h2⟩, h⟩ := h
    obtain ⟨rfl, _⟩ := res_tup ru ey
    obtain ⟨a1, a2, a3⟩ := dp_of rv 60 h1
    obtain ⟨b1, b2, b3⟩ := dp_of ru 60 h2
    refine .inl (.inr ⟨_, toP.toPs xs, a1, b1, shaped_of a2 a3 (by decide), shaped_of b2 b3 (by decide), ?_⟩)
    rw [any_toPs]
    exact k _ _ _ h (Nx.refl rl) (.bl _)
  · rename_i xs ey
    obtain ⟨⟨h1, h2⟩, h⟩ := h
    obtain ⟨a1, a2, a3⟩ := dp_of rv 60 h1
    rw [← ey] at h2
    obtain ⟨b1, b2, b3⟩ := dp_res rl ru h2
    rw [ey] at b1 b2 b3
    refine .inl (.inl ⟨_, toP.toPs xs, a1, b1, shaped_of a2 a3 (by decide), shaped_of b2 b3 (by decide), ?_⟩)
    rw [any_toPs]
    exact k _ _ _ h (Nx.refl rl) (.bl _)
  · rename_i t ks vs ey
    obtain ⟨ko, h⟩ := h
    obtain ⟨p, kv, vv, rfl, h1, h2, h3⟩ := res_dct rl ru ey
    exact .inr ⟨t, m, L, p, kv, vv, ks, vs, x, ⟨rfl, h1, h2, h3, rv, ko⟩, k _ _ _ (by simpa using h) (Nx.refl rl) (.bl _)⟩
  · exact h.elim
theorem idx_ok {B : Option En} {pos : Pos} {a b : Expr} {ta tb : TD} (hu : X.A.units + 10 < cLine) (hs : isSlice b = false) (ha : DE X (wd X) B a ta) (hb : DE X (wd X) B b tb) : DE X (wd X) B (.Subscript a b pos) (d2 idxK ta tb) :=
  peI (pe_ix ((IxR.or ix_list ix_tup).or (ix_dct hu)) ha hb (plainIx_of hs)) fun σ H Q h => tOp_of (r := fun x y H Q => rIx2 X.K x y H Q ∨ rGetC (wd X) x y H Q) (fun m L H x y v u Q Qd rl rv ru h k => by
    unfold idxK at h
    split at h
    · rename_i xs i ex
      obtain ⟨d, ea, q⟩ := h
      cases ru
      obtain ⟨rfl, p, vs, rfl, h1, h2⟩ := res_tup rv ex
      obtain ⟨w, g1, g2⟩ := vals_at h2 ea
      exact .inl (.inr ⟨p, vs, i, w, rfl, rfl, h1, g1, k _ _ _ q (Nx.refl rl) g2⟩)
    · rename_i xs i ex
      obtain ⟨d, ea, q⟩ := h
      cases ru
      obtain ⟨p, vs, rfl, h1, h2⟩ := res_lst rl rv ex
      obtain ⟨w, g1, g2⟩ := vals_at h2 ea
      exact .inl (.inl ⟨p, vs, i, w, rfl, rfl, SqL.of h1, g1, k _ _ _ q (Nx.refl rl) g2⟩)
    · rename_i xs i ex
      obtain ⟨d, ea, q⟩ := h
      cases ru
      obtain ⟨p, vs, rfl, h1, h2, _⟩ := res_scr rv ex
      obtain ⟨w, g1, g2⟩ := vals_at h2 ea
      exact .inl (.inl ⟨p, vs, i, w, rfl, rfl, h1, g1, k _ _ _ q (Nx.refl rl) g2⟩)
    · rename_i t ks vs ex
      obtain ⟨ko, d, ea, q⟩ := h
      obtain ⟨p, kv, vv, rfl, h1, h2, h3⟩ := res_dct rl rv ex
      exact .inr ⟨t, m, L, p, kv, vv, ks, vs, _, d, ⟨rfl, h1, h2, h3, ru, ko⟩, ea, fun v' r' => k _ _ _ q (Nx.refl rl) r'⟩
    · exact h.elim) h
end
end Nr

/-! Methods of lists. -/
namespace Nr
open PySem PySem.Spec PyProof.Rows L2
section
variable {W : Wd} {m : Nb} {L : Hl} {H : Hp} {v : V} {vs : List V} {xs ys : List D} {n : Nat}
theorem obj_lst (rl : RepL W m L H) (r : RepV W m L H v (.obj n)) (e : L[n]? = some (.lst xs)) : ∃ vs, v = .ref (m.m n) ∧ H (m.m n) = some (.lst vs) ∧ RepVs W m L H vs xs := by
  cases r with
  | obj hi =>
    obtain ⟨vs, h1, h2⟩ := rl.ob n _ e
    exact ⟨vs, rfl, h1, h2⟩
theorem set_lst (rl : RepL W m L H) (e : L[n]? = some (.lst xs)) (r : RepVs W m L H vs ys) : Step m L H m (L.set n (.lst ys)) (upd H (m.m n) (.lst vs)) ∧ RepL W m (L.set n (.lst ys)) (upd H (m.m n) (.lst vs)) := by
  have al : Alive L n := ⟨_, e, trivial⟩
  have st : Step m L H m (L.set n (.lst ys)) (upd H (m.m n) (.lst vs)) := Step.write al
  exact ⟨st, rl.write al ⟨vs, upd_same, r.step st⟩⟩
/-- the rule r serves the method -/
def MD (W : Wd) (r : V → List V → Hp → VK → Prop) (mt : Mt) : Prop := ∀ (m : Nb) (L : Hl) (H : Hp) (v : V) (x : D) (vs : List V) (xs : List D) (Q : VK) (Qd : QE), RepL W m L H → RepV W m L H v x → RepVs W m L H vs xs → methK mt L x xs Qd →
  (∀ d L' u H', Qd d L' → Step m L H m L' H' → RepL W m L' H' → RepV W m L' H' u d → Q u H') → r v vs H Q
theorem md_append : MD W rAppend .append := by
  intro m L H v x vs xs Q Qd rl rv rs h c
  unfold methK at h
  split at h <;> try contradiction
  obtain ⟨ys, e, hl, q⟩ := h
  obtain ⟨ws, rfl, h1, h2⟩ := obj_lst rl rv e
  obtain ⟨u, rfl, ru⟩ := one_of rs
  obtain ⟨st, rl'⟩ := set_lst rl e (h2.append (.one ru))
  exact ⟨_, ws, u, rfl, rfl, h1, by rw [h2.length]; exact hl, c _ _ _ _ q st rl' .non⟩
def rPop2 : V → List V → Hp → VK → Prop := fun x vs H Q => rPop x vs H Q ∨ rPopAt x vs H Q
theorem mt_pop2 {X : Cx} : MtR X "list.pop" rPop2 := fun pins s σ H x xs v us Q I rx rxs h => h.elim (mt_pop pins s σ H x xs v us Q I rx rxs) (mt_popAt pins s σ H x xs v us Q I rx rxs)
theorem md_pop : MD W rPop2 .pop := by
  intro m L H v x vs xs Q Qd rl rv rs h c
  unfold methK at h
  split at h <;> try contradiction
  · obtain ⟨ys, y, e, hy, q⟩ := h
    obtain ⟨ws, rfl, h1, h2⟩ := obj_lst rl rv e
    cases rs
    obtain ⟨w, hw, rw'⟩ := h2.getD hy
    obtain ⟨st, rl'⟩ := set_lst rl e h2.dropLast
    exact .inl ⟨_, ws, w, rfl, rfl, h1, by rw [h2.length]; exact hw, c _ _ _ _ q st rl' (rw'.step st)⟩
  · obtain ⟨ys, j, y, e, b1, b2, hj, hy, q⟩ := h
    obtain ⟨ws, rfl, h1, h2⟩ := obj_lst rl rv e
    obtain ⟨u, rfl, ru⟩ := one_of rs
    cases ru
    obtain ⟨w, hw, rw'⟩ := h2.getD hy
    obtain ⟨st, rl'⟩ := set_lst rl e (h2.eraseIdx j)
    exact .inr ⟨_, ws, _, j, w, rfl, rfl, h1, b1, b2, by rw [h2.length]; exact hj, hw, c _ _ _ _ q st rl' (rw'.step st)⟩
theorem md_extend : MD W rExtend .extend := by
  intro m L H v x vs xs Q Qd rl rv rs h c
  unfold methK at h
  split at h <;> try contradiction
  obtain ⟨ys, zs, e, er, hne, hl, q⟩ := h
  obtain ⟨ws, rfl, h1, h2⟩ := obj_lst rl rv e
  obtain ⟨u, rfl, ru⟩ := one_of rs
  obtain ⟨p, us, rfl, g1, g2⟩ := res_lst rl ru er
  obtain ⟨st, rl'⟩ := set_lst rl e (h2.append g2)
  exact ⟨_, p, ws, us, rfl, rfl, h1, g1, by rw [h2.length, g2.length]; exact hl, c _ _ _ _ q st rl' .non⟩
theorem md_insert : MD W (fun x vs H Q => ∃ (l : Addr) (xs : List V) (i : Int) (y : V), x = .ref l ∧ vs = [.int i, y] ∧ H l = some (.lst xs) ∧ xs.length < sizeLine ∧ 0 ≤ i ∧ i < 2 ^ 63 ∧
    Q .non (upd H l (.lst (xs.take i.toNat ++ [y] ++ xs.drop i.toNat)))) .insert := by
  intro m L H v x vs xs Q Qd rl rv rs h c
  unfold methK at h
  split at h <;> try contradiction
  obtain ⟨ys, e, hl, b1, b2, q⟩ := h
  obtain ⟨ws, rfl, h1, h2⟩ := obj_lst rl rv e
  obtain ⟨u1, u, rfl, r1, ru⟩ := two_of rs
  cases r1
  obtain ⟨st, rl'⟩ := set_lst rl e (((h2.take _).append (.one ru)).append (h2.drop _))
  exact ⟨_, ws, _, u, rfl, rfl, h1, by rw [h2.length]; exact hl, b1, b2, c _ _ _ _ q st rl' .non⟩
theorem md_index : MD W (rIndexD W.K) .index := by
  intro m L H v x vs xs Q Qd rl rv rs h c
  unfold methK at h
  split at h <;> try contradiction
  obtain ⟨ys, j, e, ⟨p1, p2⟩, hj, q⟩ := h
  obtain ⟨u, rfl, ru⟩ := one_of rs
  obtain ⟨p, ws, rfl, h1, h2⟩ := res_lst rl rv e
  obtain ⟨a1, a2, a3⟩ := dp_of ru 60 p1
  rw [← e] at p2
  obtain ⟨b1, b2, b3⟩ := dp_res rl rv p2
  rw [e] at b1 b2 b3
  unfold firstAt at hj
  rw [List.findIdx?_eq_some_iff_getElem] at hj
  obtain ⟨hlt, h3, h4⟩ := hj
  refine ⟨p, u, _, toP.toPs ys, j, toP ys[j], rfl, rfl, b1, a1, shaped_of b2 b3 (by decide), shaped_of a2 a3 (by decide), ?_, h3, fun i z hi hz => ?_, c _ _ _ _ q Step.refl rl (.int _)⟩
  · rw [toPs_map, List.getElem?_map, List.getElem?_eq_getElem hlt]
    rfl
  · rw [toPs_map, List.getElem?_map, List.getElem?_eq_getElem (Nat.lt_trans hi hlt)] at hz
    cases hz
    have := h4 i hi
    simpa [deq] using this
end
section
variable {Φ : Phi} {B : Option En} {E : XS} {k : Nat} {Γ : Gm} {X : Cx} {W : Wd} {e o : Expr} {es : List Expr} {pos apos : Pos}
def dMeth (mt : Mt) (ta : TD) (t : TDs) : TD := fun ds L Q => ta ds L fun x L1 => lstAt L1 x ∧ t ds L1 fun xs L2 => methK mt L2 x xs Q
theorem tyV_lst {m : Nb} {L : Hl} {H : Hp} {v : V} {x : D} (rl : RepL (wd X) m L H) (r : RepV (wd X) m L H v x) (h : lstAt L x) : tyV X.K "list" v H := by
  obtain ⟨xs, e⟩ := h
  obtain ⟨p, vs, rfl, h1, _⟩ := res_lst rl r e
  exact .inl ⟨rfl, vs, SqL.of h1⟩
theorem base_of {name : Str} {env : Env} {w : Sem Value} (h : methBase o = true) : attributeBase o name env w = w := by
  cases o <;> first | rfl | cases h
theorem few_of {env : Env} (h : (es.all fun e => !starE e) = true) (hl : es.length < 20) : ((backTo pos (starEach es env)).all (fun x => !x.1) && (backToKw pos (keywordEach [] env)).all (fun x => x.1.isSome)
      && decide (es.length + ([] : List Keyword).length + (if ([] : List Keyword).isEmpty then 0 else 1) < 30)) = true := by
  have h1 : (backTo pos (starEach es env)).all (fun x => !x.1) = true := by
    have := plain_args (pos := pos) (env := env) h
    rw [List.any_eq_false] at this
    rw [List.all_eq_true]
    intro x hx
    simpa using this x hx
  rw [h1]
  have h2 : es.length + 0 + 0 < 30 := by omega
  simpa [backToKw, keywordEach] using h2
theorem m_fin {r : V → List V → Hp → VK → Prop} {mt : Mt} {ta : TD} {t : TDs} (hr : MD (wd X) r mt) {σ : _root_.L2.St} {H : Hp} {Q : VK} (h : lE (wd X) B (dMeth mt ta t) σ H Q) : tBM X.K "list" r (lE (wd X) B ta) (lA (wd X) B t) σ H Q := by
  obtain ⟨m, L, ds, Qd, S, q, c⟩ := h
  refine ⟨m, L, ds, _, S, q, fun x L1 v m1 H1 q1 st1 rl1 r1 => ⟨tyV_lst rl1 r1 q1.1, m1, L1, ds, _, S.nx st1 rl1, q1.2, fun xs L2 vs m2 H2 q2 st2 rl2 rs => ?_⟩⟩
  exact hr m2 L2 H2 v x vs xs Q Qd rl2 (r1.step st2) rs q2 fun d L' u H' qd st rl ru => c d L' u m2 H' qd ((st1.trans st2).trans st) rl ru
theorem meth_ok {mt : Mt} {x : Str} {ta : TD} {t : TDs} (G : Good Φ B E k Γ X) (hx : x = Str.ofString (mtName mt)) (hb : methBase o = true) (hp : (apos.endLine == pos.line) = true) (hl : (e :: es).length < 20) (hs : ((e :: es).all fun e => !starE e) = true)
    (ho : DE X (wd X) B o ta) (ha : DA X (wd X) B (e :: es) t) : DE X (wd X) B (.Call (.Attribute o x apos) (e :: es) [] pos) (dMeth mt ta t) := by
  subst hx
  have hu : X.A.units + 65 < cLine := by have := G.units; omega
  have hs' := hs
  rw [List.all_cons, Bool.and_eq_true] at hs'
  have h1 := star_of (es := es) (env := X.env) (show starE e = false by simpa using hs'.1)
  have h2 := plain_args (pos := pos) (env := X.env) hs'.2
  have h3 := few_of (pos := pos) (env := X.env) hs hl
  cases mt with
  | append => exact peI (pe_bm F.plainAttrs_list F.slot_list_append F.type_list_append mt_append ho ha (base_of hb) h3 hp h1 h2) fun σ H Q h => m_fin md_append h
  | pop => exact peI (pe_bm F.plainAttrs_list F.slot_list_pop F.type_list_pop mt_pop2 ho ha (base_of hb) h3 hp h1 h2) fun σ H Q h => m_fin md_pop h
  | extend => exact peI (pe_bm F.plainAttrs_list F.slot_list_extend F.type_list_extend mt_extend ho ha (base_of hb) h3 hp h1 h2) fun σ H Q h => m_fin md_extend h
  | insert => exact peI (pe_bm F.plainAttrs_list F.slot_list_insert F.type_list_insert mt_insert ho ha (base_of hb) h3 hp h1 h2) fun σ H Q h => m_fin md_insert h
  | index => exact peI (pe_bm F.plainAttrs_list F.slot_list_index F.type_list_index (mt_indexD hu) ho ha (base_of hb) h3 hp h1 h2) fun σ H Q h => m_fin md_index h
theorem meth0_ok {mt : Mt} {x : Str} {ta : TD} (G : Good Φ B E k Γ X) (hx : x = Str.ofString (mtName mt)) (hm : mt = .pop) (hb : methBase o = true) (hp : (apos.endLine == pos.line) = true) (ho : DE X (wd X) B o ta) :
    DE X (wd X) B (.Call (.Attribute o x apos) [] [] pos) (dMeth mt ta fun ds L Q => Q [] L) := by
  subst hx
  subst hm
  refine peI (pe_bm0 F.plainAttrs_list F.slot_list_pop F.type_list_pop mt_pop2 ho (base_of hb) hp) fun σ H Q h => ?_
  obtain ⟨m, L, ds, Qd, S, q, c⟩ := h
  refine ⟨m, L, ds, _, S, q, fun x L1 v m1 H1 q1 st1 rl1 r1 => ⟨tyV_lst rl1 r1 q1.1, ?_⟩⟩
  exact md_pop m1 L1 H1 v x [] [] Q Qd rl1 r1 .nil q1.2 fun d L' u H' qd st rl ru => c d L' u m1 H' qd (st1.trans st) rl ru
end
end Nr

/-! d.get(k, x), {k: v}. -/
namespace Nr
open PySem PySem.Spec PyProof.Rows L2
/-- v is a dict -/
def IsDct (W : Wd) (H : Hp) (v : V) : Prop := ∃ t m L p kv vv ks, v = .ref p ∧ DctAt W H p t kv ks vv ∧ RepVs W m L H kv ks
/-- o.get(e, f) -/
def tGetC (W : Wd) (td ty tx : TE) : TE := fun σ H Q => td σ H fun x H1 => IsDct W H1 x ∧ ty σ H1 fun y H2 => tx σ H2 fun u H3 => ∃ t m L p kv vv ks vs xd, DctK W H3 x y t m L p kv vv ks vs xd ∧
  (∀ z, dget ks vs xd = some z → ∀ v, RepV W m L H3 v z → Q v H3) ∧ (dget ks vs xd = none → Q u H3)
theorem dget_some : ∀ {ks vs : List Nr.D} {y : Nr.D}, ks.length = vs.length → ((dget ks vs y).isSome = dhas ks y)
  | [], [], _, _ => rfl
  | a :: ks, v :: vs, y, h => by
    unfold dget dhas
    rw [List.any_cons]
    by_cases q : keq a y = true
    · rw [if_pos q, q]; rfl
    · rw [if_neg q, dget_some (by simpa using h)]
      simp [q, dhas]
section
variable {X : Cx} {o e f : Expr} {apos cpos : Pos} {td ty tx : TE}
theorem isDct_at {pins : List (Addr × Obj)} {σ : _root_.L2.St} {H : Hp} {s : Shared} {p : Addr} (I : Inv X pins σ H s) (d : IsDct (wd X) H (.ref p)) : s.TypeIs (.ref p) "dict" ∧ ∀ b, Value.ref p = .ref b → ∃ ob, s.heap.get? b = some ob ∧ ob.dict = none := by
  obtain ⟨t, m, L, p', kv, vv, ks, e, hd, rk⟩ := d
  cases e
  cases t with
  | false =>
    obtain ⟨kvs, eD, _⟩ := hd
    have d : IsD H p := .inl ⟨kvs, .inl eD⟩
    exact ⟨(isD_at I d).1, (isD_at I d).2.1⟩
  | true =>
    obtain ⟨xs, hD, _⟩ := dn_of I hd rk
    refine ⟨hD.typeIs, fun b q => ?_⟩
    cases q
    obtain ⟨ob, _, _, h1, h2, _⟩ := hD
    exact ⟨ob, h1, h2.2.1⟩
theorem pe_getC (hu : X.A.units + 10 < cLine) (ho : PE X o td) (he : PE X e ty) (hf : PE X f tx) (m : M2 X o "get" apos e f cpos) : PE X (.Call (.Attribute o "get" apos) [e, f] [] cpos) (tGetC (wd X) td ty tx) := by
  refine ⟨fun pins s σ H Q I h => ?_⟩
  refine wpAny_Call_method m.base m.few m.line PySem.F.plainAttrs_dict PySem.F.slot_dict_get PySem.F.type_dict_get (thn (ho.run pins s σ H _ I h) fun u s1 ⟨x, H1, I1, rx, d, q1⟩ => ?_)
  obtain ⟨p, rfl⟩ : ∃ p, x = .ref p := let ⟨_, _, _, p, _, _, _, e, _⟩ := d; ⟨p, e⟩
  cases rx
  obtain ⟨t1, t2⟩ := isDct_at I1 d
  refine ⟨t1, t2, ?_⟩
  rw [m.trees]
  refine Calls.callWith_builtin rfl (Calls.evalArgs_plain (Calls.spliced_cons (thn (he.run pins s1 σ H1 _ I1 q1) fun iv s2 ⟨y, H2, I2, ry, q2⟩ => Calls.spliced_cons (thn (hf.run pins s2 σ H2 _ I2 q2) fun fv s3 ⟨u, H3, I3, ru, hq⟩ => Calls.spliced_nil ?_))))
  obtain ⟨t, m, L, p', kv, vv, ks, vs, xd, ⟨e1, hd, rk, rv, rxd, ok⟩, g1, g2⟩ := hq
  cases e1
  have hl : ks.length = vs.length := by
    cases t with
    | false => obtain ⟨kvs, _, rfl, rfl, _⟩ := hd; have := rk.length; have := rv.length; simp at *; omega
    | true => obtain ⟨xs, hD, _, _, e, e2, hv, _⟩ := dn_of I3 hd rk; have := congrArg List.length e2; have := rv.length; have := hv.length; simp at *; omega
  have hs := dget_some (y := xd) hl
  cases t with
  | false =>
    obtain ⟨kvs, eD, rfl, rfl, nd, ek⟩ := hd
    obtain ⟨k, rfl, hk⟩ := key_flat ok rxd
    obtain ⟨b1, b2⟩ := get_flat hk ek rv
    refine d_get2 (by omega) I3 (DGet.k eD) ry ru fun w' s' I' r' => ?_
    cases q : dget ks vs xd with
    | some z =>
      obtain ⟨w, hw, rw'⟩ := b2 z q
      rw [hw] at r'
      exact ⟨w, H3, I', r', g1 z q w rw'⟩
    | none =>
      rw [q] at hs
      rw [← hs] at b1
      have : valV kvs k = none := by cases z : valV kvs k with | none => rfl | some _ => rw [z] at b1; cases b1
      rw [this] at r'
      exact ⟨u, H3, I', r', g2 q⟩
  | true =>
    obtain ⟨a, rfl, rfl, hk⟩ := key_at I3 rxd ry ok
    obtain ⟨xs, hD, hss, hzz, rfl, e2, hv, ka, nd⟩ := dn_of I3 hd rk
    obtain ⟨b1, b2⟩ := get_nest (y := xd) e2 rv hv
    refine call_meetsIn PySem.F.slot_dict_get hD.typeIs PySem.F.entry_dict_get (PySem.F.args_dict_get_3 _ _ _) (meetsH_dict_get_default (nk X) p a hss fv) ⟨show X.A.units + 1 + 8 < cLine by omega, nkey xd, xs, hk, hD, ?_⟩
    cases q : dget ks vs xd with
    | some z =>
      obtain ⟨pp, w, hp, r1, r2⟩ := b2 z q
      rw [hp]
      exact ⟨w, H3, I3.tok _, r1, g1 z q w r2⟩
    | none =>
      rw [q] at hs
      rw [← hs] at b1
      have : atKey xs (nkey xd) = none := by cases z : atKey xs (nkey xd) with | none => rfl | some _ => rw [z] at b1; cases b1
      rw [this]
      exact ⟨u, H3, I3.tok _, ru, g2 q⟩
end
section
variable {B : Option En} {Φ : Phi} {E : XS} {k : Nat} {Γ : Gm} {X : Cx} {o e f : Expr} {apos cpos : Pos} {td ty tx : TD}
def dGet3 (td ty tx : TD) : TD := fun ds L Q => td ds L fun x L1 => dctAt L1 x ∧ ty ds L1 fun y L2 => tx ds L2 fun z L3 => dgetK L3 x y z fun u => Q u L3
theorem e_dget {x : Str} (G : Good Φ B E k Γ X) (hx : x = "get") (hb : methBase o = true) (hp : (apos.endLine == cpos.line) = true) (h1 : starE e = false) (h2 : starE f = false) (ho : DE X (wd X) B o td) (he : DE X (wd X) B e ty) (hf : DE X (wd X) B f tx) :
    DE X (wd X) B (.Call (.Attribute o x apos) [e, f] [] cpos) (dGet3 td ty tx) := by
  subst hx
  have hs : ([e, f].all fun e => !starE e) = true := by simp [h1, h2]
  refine peI (pe_getC (by have := G.units; omega) ho he hf ⟨base_of hb, few_of hs (by simp), hp, by rw [star_of (es := [f]) h1, star_of (es := []) h2]; rfl⟩) fun σ H Q h => ?_
  obtain ⟨m, L, ds, Qd, S, q, c⟩ := h
  refine ⟨m, L, ds, _, S, q, fun xd L1 v m1 H1 q1 st1 rl1 r1 => ⟨?_, m1, L1, ds, _, S.nx st1 rl1, q1.2, fun yd L2 y m2 H2 q2 st2 rl2 r2 => ⟨m2, L2, ds, _, (S.nx st1 rl1).nx st2 rl2, q2, fun zd L3 z m3 H3 q3 st3 rl3 r3 => ?_⟩⟩⟩
  · obtain ⟨t, ks, vs, e⟩ := q1.1
    obtain ⟨p, kv, vv, rfl, a1, a2, a3⟩ := res_dct rl1 r1 e
    exact ⟨t, m1, L1, p, kv, vv, ks, rfl, a1, a2⟩
  · unfold dgetK at q3
    split at q3
    · rename_i t ks vs ey
      obtain ⟨ko, q3⟩ := q3
      obtain ⟨p, kv, vv, rfl, a1, a2, a3⟩ := res_dct rl3 ((r1.step st2).step st3) ey
      have st := (st1.trans st2).trans st3
      refine ⟨t, m3, L3, p, kv, vv, ks, vs, yd, ⟨rfl, a1, a2, a3, r2.step st3, ko⟩, fun z' hz v' r' => ?_, fun hn => ?_⟩
      · rw [hz] at q3
        exact c _ L3 v' m3 H3 q3 st rl3 r'
      · rw [hn] at q3
        exact c _ L3 z m3 H3 q3 st rl3 r3
    · exact q3.elim
end
/-! ### a numbered list that nobody changes any more -/
theorem de_give {W : Wd} {X : Cx} {B : Option En} {e : Expr} {i : Nat} (h : PE X e (_root_.L2.tVar i)) : DE X W B e (fun ds L Q => ∃ n, ds[i]? = some (some (.obj n)) ∧ giveK L n Q) := peI h fun σ H Q ⟨m, L, ds, Qd, S, ⟨n, hd, q⟩, k⟩ => by
  obtain ⟨v, hv, r⟩ := S.rs i _ hd
  refine ⟨v, hv, ?_⟩
  cases r with
  | obj hi =>
    unfold giveK at q
    split at q
    · rename_i xs e1
      have al : Alive L n := ⟨_, e1, trivial⟩
      obtain ⟨vs, h1, h2⟩ := S.rl.ob _ _ e1
      have st : Step m L H m (L.set n .dead) H := Step.kill al
      exact k _ _ _ m H q st (S.rl.kill al) (.lst h1 (h2.step st) (Apart.kill S.rl al))
    · rename_i t ks vs e1
      have al : Alive L n := ⟨_, e1, trivial⟩
      obtain ⟨kv, vv, h1, h2, h3⟩ := S.rl.ob _ _ e1
      have st : Step m L H m (L.set n .dead) H := Step.kill al
      exact k _ _ _ m H q st (S.rl.kill al) (.dct h1 (h2.step st) (h3.step st) (Apart.kill S.rl al))
    · exact q.elim
/-! ### {k: v} -/
def tOne (W : Wd) (t : Bool) (tk tv : TE) : TE := fun σ H Q => ∀ p o, H p = none → (∀ H', H' p = some o → DctAt W H' p t [] [] []) → tk σ (upd H p o) fun y H1 => tv σ H1 fun z H2 => StoT W t p y z H2 fun H3 => Q (.ref p) H3
section
variable {X : Cx} {ke ve : Expr} {pos : Pos} {tk tv : TE} {t : Bool}
theorem pe_dOne (hu : X.A.units + 10 < cLine) (hk : PE X ke tk) (hv : PE X ve tv) : PE X (.Dict [some ke] [ve] pos) (tOne (wd X) t tk tv) := by
  refine ⟨fun pins s σ H Q I h => ?_⟩
  obtain ⟨o, I1, hd⟩ := d_begin (t := t) I s.toks
  have h := h _ o (I.hok.fresh (Nat.le_refl _)) hd
  have st : ∀ (F : Addr → Sem Value), (∀ s3 H3, Inv X pins σ H3 s3 → Q (.ref s.heap.objs.size) H3 → wpAny (model X.prog X.w) X.A (F s.heap.objs.size) (EP X pins σ Q) X.xe s3) →
      wpAny (model X.prog X.w) X.A (subDict (pairTrees [some ke] [ve] X.env pos) >>= F) (EP X pins σ Q) X.xe s := fun F hF => by
    refine wpAny_bind ?_
    unfold subDict
    refine wpAny_bind (wpAny_alloc (wpAny_bind (wpAny_holding ?_)))
    rw [if_pos (by simp [pairTrees])]
    refine wpAny_bind (pairTrees_cons_walk (thn (hk.run pins _ σ _ _ I1 h) fun u s1 ⟨y, H1, J1, ry, q1⟩ => thn (hv.run pins s1 σ H1 _ J1 q1) fun r s2 ⟨z, H2, J2, rz, q2⟩ => pairTrees_nil_walk ?_))
    refine wpAny_holding (wpAny_bind ?_)
    rw [List.forIn_cons]
    refine wpAny_bind (wpAny_bind (d_store (by omega) J2 ry rz q2 fun s3 o3 J3 nx => wpAny_pure ?_))
    dsimp only
    rw [List.forIn_nil]
    exact wpAny_pure (wpAny_pure (wpAny_pure (hF s3 _ J3 nx)))
  rw [arm_eval_Dict, zip_pairTrees _ _ _ _ rfl rfl, dictDisplay_pairs _ (by simp [pairTrees]) (by simp [pairTrees])]
  refine wpAny_bind (wpAny_standAt ?_)
  refine st (fun d => pure (.ref d)) fun s3 H3 J3 q3 => wpAny_pure ⟨.ref s.heap.objs.size, H3, J3, rfl, q3⟩
variable {B : Option En} {td tw : TD}
theorem f_one (hu : X.A.units + 10 < cLine) (hk : DE X (wd X) B ke td) (hv : DE X (wd X) B ve tw) : DFD X (wd X) B (.Dict [some ke] [ve] pos) (fun ds L Q => td ds L fun y L1 => tw ds L1 fun z L2 => keyOk t y = true ∧ Q t [y] [z] L2) :=
  peI (pe_dOne (t := t) hu hk hv) fun σ H Q ⟨m, L, ds, Qd, S, q, c⟩ p o hp hd => by
    have n0 : NewD (wd X) m L H (m.res p) L (upd H p o) p t [] [] := newD_upd (kv := []) (vv := []) S.rl Step.refl S.rl hp (hd _ upd_same) .nil .nil
    refine ⟨m.res p, L, ds, _, S.nx n0.st n0.rl, q, fun y L1 v m1 H1 q1 st1 rl1 r1 => ⟨m1, L1, ds, _, (S.nx n0.st n0.rl).nx st1 rl1, q1, fun z L2 u m2 H2 q2 st2 rl2 r2 => ?_⟩⟩
    have n2 := (n0.go st1 rl1).go st2 rl2
    obtain ⟨kv, vv, hD, h2, h3⟩ := n2.at_
    exact ⟨m2, L2, [], [], kv, vv, y, z, hD, h2, h3, r1.step st2, r2, q2.1, by rw [sizeLine_eq]; decide, fun o' kv' vv' _ hd' rk rv => c t [y] [z] L2 m2 _ p q2.2 (n2.put hd' rk rv)⟩
end
end Nr

/-! The small language does what the text does: all expressions. -/
namespace Nr
open PySem PySem.Spec PyProof.Rows L2
section
variable {Φ : Phi} {B : Option En} {E : XS} {k : Nat} {Γ : Gm} {X : Cx} {W : Wd} {e tg : Expr} {es : List Expr} {pos : Pos}
theorem cvE {t t' : TD} (h : DE X W B e t) (c : ∀ ds L Q, t' ds L Q → t ds L Q) : DE X W B e t' := peI h fun σ H Q ⟨m, L, ds, Qd, S, q, k⟩ => ⟨m, L, ds, Qd, S, c ds L Qd q, k⟩
theorem cvT {t t' : TD} (h : DT X W B e t) (c : ∀ ds L Q, t' ds L Q → t ds L Q) : DT X W B e t' := ptI h fun σ H Q ⟨m, L, ds, Qd, S, q, k⟩ => ⟨m, L, ds, Qd, S, c ds L Qd q, k⟩
theorem cvW {t t' : TD} (h : DW X W B e t) (c : ∀ ds L Q, t' ds L Q → t ds L Q) : DW X W B e t' := ⟨fun wh pins s σ H Q I ⟨m, L, ds, Qd, S, q, k⟩ => h.run wh pins s σ H Q I ⟨m, L, ds, Qd, S, c ds L Qd q, k⟩⟩
theorem cvA {t t' : TDs} (h : DA X W B es t) (c : ∀ ds L Q, t' ds L Q → t ds L Q) : DA X W B es t' := paI h fun σ H Q ⟨m, L, ds, Qd, S, q, k⟩ => ⟨m, L, ds, Qd, S, c ds L Qd q, k⟩
theorem cvF {t t' : TDl} (h : DF X W B e t) (c : ∀ ds L Q, t' ds L Q → t ds L Q) : DF X W B e t' := peI h fun σ H Q ⟨m, L, ds, Qd, S, q, k⟩ => ⟨m, L, ds, Qd, S, c ds L Qd q, k⟩
theorem cvFD {t t' : TDd} (h : DFD X W B e t) (c : ∀ ds L Q, t' ds L Q → t ds L Q) : DFD X W B e t' := peI h fun σ H Q ⟨m, L, ds, Qd, S, q, k⟩ => ⟨m, L, ds, Qd, S, c ds L Qd q, k⟩
theorem cvI {t t' : TDi} (h : DI X W B tg e t) (c : ∀ ds L Q, t' ds L Q → t ds L Q) : DI X W B tg e t' := piI h fun σ H Q ⟨m, L, ds, Qd, S, q, k⟩ => ⟨m, L, ds, Qd, S, c ds L Qd q, k⟩
theorem cvR {t t' : TDr} (h : DR X W B e t) (c : ∀ ds L Q, t' ds L Q → t ds L Q) : DR X W B e t' := fun pins s σ H Q I ⟨m, L, ds, Qd, S, q, k⟩ => h pins s σ H Q I ⟨m, L, ds, Qd, S, c ds L Qd q, k⟩
theorem cvK {t t' : TDs} {ks : List Keyword} (h : DK X W B ks t) (c : ∀ ds L Q, t' ds L Q → t ds L Q) : DK X W B ks t' := ⟨fun pos pins s σ H Q I ⟨m, L, ds, Qd, S, q, k⟩ => h.run pos pins s σ H Q I ⟨m, L, ds, Qd, S, c ds L Qd q, k⟩⟩
theorem both {t : TD} (h : DE X (wd X) B e t) (he : ∀ whole, isTrue e X.env whole = (do let v ← whole; standAt e.pos; holding [v] (truthy v))) : DE X (wd X) B e t ∧ DT X (wd X) B e t := ⟨h, t_truth h he⟩
theorem t_ite {c' a b : Expr} {t ta tb : TD} (hc : DT X W B c' t) (ha : DT X W B a ta) (hb : DT X W B b tb) : DT X W B (.IfExp c' a b pos) (dIte t ta tb) :=
  ⟨fun pins s σ H Q I ⟨m, L, ds, Qd, S, q, c⟩ => wpAny_bind (thn (hc.run pins s σ H (fun b H1 => ∃ m1 L1, (if b = true then ta ds L1 Qd else tb ds L1 Qd) ∧ Step m L H m1 L1 H1 ∧ RepL W m1 L1 H1) I ⟨m, L, ds, _, S, q, fun d L1 m1 H1 ⟨k, e, q1⟩ st1 rl1 => ⟨k, e, m1, L1, q1, st1, rl1⟩⟩) fun b s1 ⟨H1, I1, m1, L1, q1, st1, rl1⟩ => by
    cases b with
    | true => exact ha.run pins s1 σ H1 Q I1 ⟨m1, L1, ds, Qd, S.nx st1 rl1, q1, fun d L2 m2 H2 q2 st2 rl2 => c d L2 m2 H2 q2 (st1.trans st2) rl2⟩
    | false => exact hb.run pins s1 σ H1 Q I1 ⟨m1, L1, ds, Qd, S.nx st1 rl1, q1, fun d L2 m2 H2 q2 st2 rl2 => c d L2 m2 H2 q2 (st1.trans st2) rl2⟩)⟩
def tE (Φ : Phi) (E : XS) (ir : IE) : TD := fun ds L Q => semE Φ ir (fun c L => E c ds L) ds L Q
def tEs (Φ : Phi) (E : XS) (ir : IEs) : TDs := fun ds L Q => semEs Φ ir (fun c L => E c ds L) ds L Q
def tF (Φ : Phi) (E : XS) (ir : IF) : TDl := fun ds L Q => semF Φ ir (fun c L => E c ds L) ds L Q
def tDd (Φ : Phi) (E : XS) (ir : ID) : TDd := fun ds L Q => semD Φ ir (fun c L => E c ds L) ds L Q
def tR (Φ : Phi) (E : XS) (ir : IR) : TDr := fun ds L Q => semR Φ ir (fun c L => E c ds L) ds L Q
def tI (Φ : Phi) (E : XS) (ir : II) : TDi := fun ds L Q => semI Φ ir (fun c L => E c ds L) ds L Q
def tIff (Φ : Phi) (E : XS) (ir : IEs) : TDt := fun ds L Q => semIf Φ ir (fun c L => E c ds L) ds L Q
/-- operators -/
theorem bin_all {o : B2} {op : Operator} {a b : Expr} {ta tb : TD} (h : opB o op = true) (ha : DE X (wd X) B a ta) (hb : DE X (wd X) B b tb) : DE X (wd X) B (.BinOp a op b pos) (d2 (binK o) ta tb) := by
  cases o <;> cases op <;> first | (cases h; done) | skip
  · exact de_bin or_add b_add ha hb
  · exact de_bin op_sub b_int0 ha hb
  · exact de_bin or_mul b_mul ha hb
  · exact de_bin op_mod b_int ha hb
  · exact de_bin op_fdivW b_int ha hb
  · exact de_bin op_pow b_int ha hb
theorem cmp_ex {o : C2} {op : CmpOp} (hu : X.A.units + 200 < cLine) (h : opC o op = true) : ∃ r, OpR X (compareOp op) r ∧ Op2 (wd X) r (cmpK o) := by
  have h64 : X.A.units + 64 < cLine := by omega
  have h65 : X.A.units + 65 < cLine := by omega
  cases o <;> cases op <;> first | (cases h; done) | skip
  · exact ⟨_, op_eqD h64, c_eq⟩
  · exact ⟨_, op_neD h64, c_ne⟩
  · exact ⟨_, or_lt h64, c_lt⟩
  · exact ⟨_, op_le, c_le⟩
  · exact ⟨_, op_gt, c_gt⟩
  · exact ⟨_, op_ge, c_ge⟩
  · exact ⟨_, or_is, c_is⟩
  · exact ⟨_, or_isnot, c_isnot⟩
  · exact ⟨_, or_in h65, c_in⟩
  · exact ⟨_, or_notin h65, c_notin⟩
theorem isi_all0 {t : Ty} {x : Str} {c : Expr} {p : Pos} {ta : TD} (G : Good Φ B E k Γ X) (hx : Γ.gl x = true) (hxe : x = Str.ofString "isinstance") (hc : chkTy Γ t c = true) (hn : ∀ c xs, t ≠ .cls c xs) (hs : starE e = false) (ha : DE X (wd X) B e ta) : DE X (wd X) B (.Call (.Name x p) [e, c] [] pos) (dIsi t ta) := by
  unfold chkTy at hc
  split at hc
  · obtain ⟨h1, h2⟩ := b2 hc
    have h2 := of_decide_eq_true h2
    exact isi_one G hx hxe h1 (by rw [h2]; exact G.blt _ (by decide +kernel)) (by rw [h2]; decide +kernel) kit_int hn hs ha
  · obtain ⟨h1, h2⟩ := b2 hc
    have h2 := of_decide_eq_true h2
    exact isi_one G hx hxe h1 (by rw [h2]; exact G.blt _ (by decide +kernel)) (by rw [h2]; decide +kernel) kit_bool hn hs ha
  · obtain ⟨h1, h2⟩ := b2 hc
    have h2 := of_decide_eq_true h2
    exact isi_one G hx hxe h1 (by rw [h2]; exact G.blt _ (by decide +kernel)) (by rw [h2]; decide +kernel) kit_str hn hs ha
  · obtain ⟨h1, h2⟩ := b2 hc
    have h2 := of_decide_eq_true h2
    exact isi_one G hx hxe h1 (by rw [h2]; exact G.blt _ (by decide +kernel)) (by rw [h2]; decide +kernel) kit_tuple hn hs ha
  · obtain ⟨h1, h2⟩ := b2 hc
    have h2 := of_decide_eq_true h2
    exact isi_one G hx hxe h1 (by rw [h2]; exact G.blt _ (by decide +kernel)) (by rw [h2]; decide +kernel) kit_list hn hs ha
  · obtain ⟨h1, h2⟩ := b2 hc
    have h2 := of_decide_eq_true h2
    exact isi_one G hx hxe h1 (by rw [h2]; exact G.blt _ (by decide +kernel)) (by rw [h2]; decide +kernel) kit_dict hn hs ha
  · exact absurd rfl (hn _ _)
  · obtain ⟨h1, h2⟩ := b2 hc
    obtain ⟨h3, h4⟩ := b2 h1
    obtain ⟨h5, h6⟩ := b2 h2
    exact isi_seq G hx hxe h3 (of_decide_eq_true h4) h5 (of_decide_eq_true h6) hs ha
  · cases hc
theorem isi_all {t : Ty} {x : Str} {c : Expr} {p : Pos} {ta : TD} (G : Good Φ B E k Γ X) (hx : Γ.gl x = true) (hxe : x = Str.ofString "isinstance") (hc : chkTy Γ t c = true) (hs : starE e = false) (ha : DE X (wd X) B e ta) : DE X (wd X) B (.Call (.Name x p) [e, c] [] pos) (dIsi t ta) := by
  cases t with
  | cls y xs =>
    unfold chkTy at hc
    split at hc <;> first | contradiction | skip
    rename_i e1
    cases e1
    obtain ⟨a1, h4⟩ := b2 hc
    obtain ⟨a2, h3⟩ := b2 a1
    obtain ⟨a3, h2⟩ := b2 a2
    clear hc a1 a2
    have e2 := of_decide_eq_true h2
    have e3 := of_decide_eq_true h3
    subst e2 e3
    exact isi_cls G hx hxe a3 ((Bool.or_eq_true_iff.mp h4).imp id fun z => of_decide_eq_true z) hs ha
  | _ => exact isi_all0 G hx hxe hc (fun c xs e => by cases e) hs ha
theorem slc_all {a : Expr} {lo hi : Option Expr} {p2 : Pos} {ta : TD} {il ih : IE} (ha : DE X (wd X) B a ta) (hl : PO X lo (lO (wd X) B (isOmit il) (tE Φ E il))) (hh : PO X hi (lO (wd X) B (isOmit ih) (tE Φ E ih))) :
    DE X (wd X) B (.Subscript a (.Slice lo hi none p2) pos) (fun ds L Q => ta ds L fun x L1 => partK (isOmit il) (tE Φ E il ds) L1 fun l L2 => partK (isOmit ih) (tE Φ E ih ds) L2 fun u L3 => slcK L3 x l u fun z => Q z L3) := slc_ok ha hl hh
end
end Nr

/-! sorted, list, min, max over lists, tuples and the keys of dicts. -/
namespace Nr
open PySem PySem.Spec PyProof.Rows L2
/-- at l stands a sequence, or a dict, whose items, or keys, are kv -/
def CollV (W : Wd) (H : Hp) (l : Addr) (kv : List V) : Prop := SqL W.K H l kv ∨ SqT W.K H l kv ∨ (∃ kvs : List (Key × V), H l = some (.dK kvs) ∧ kv = kvs.map fun p => kV p.1) ∨ ∃ m L kd vv, DctAt W H l true kv kd vv ∧ RepVs W m L H kv kd
section
variable {X : Cx} {pins : List (Addr × Obj)} {σ : _root_.L2.St} {H : Hp} {s : Shared} {m : Nb} {L : Hl}
theorem vals_of_get {vs : List V} {us : List Value} (hl : vs.length = us.length) (h : ∀ (i : Nat) (u : Value), us[i]? = some u → ∃ v, vs[i]? = some v ∧ RelV v u) : Vals vs us := by
  induction us generalizing vs with
  | nil => cases vs with
    | nil => exact .nil
    | cons a b => simp at hl
  | cons u us ih => cases vs with
    | nil => simp at hl
    | cons a b =>
      obtain ⟨v, e, r⟩ := h 0 u rfl
      cases e
      exact .cons r (ih (by simpa using hl) fun i w e => by simpa using h (i + 1) w (by simpa using e))
/-- list(l) without the list: the items' values -/
theorem coll_run (I : Inv X pins σ H s) {l : Addr} {kv : List V} (c : CollV (wd X) H l kv) (hz : kv.length ≤ sizeLine) {A : Around} {E : Value → Shared → Prop} {Q : List Value → Shared → Prop} (hh : A.handled = none)
    (q : ∀ h' tk acc, Vals kv acc → (∀ b o, s.heap.get? b = some o → h'.get? b = some o) → Q acc { s with heap := h', toks := tk }) : wpAny (model X.prog X.w) A (collect (.ref l)) Q E s := by
  rcases c with c | c | ⟨kvs, c, rfl⟩ | ⟨m, L, kd, vv, c, rk⟩
  · obtain ⟨its, r, pl, hn⟩ := I.list c
    obtain ⟨o, ho, hc, n, hd⟩ := pl.isList
    exact wpAny_collect_seq l (.inl rfl) ho hc hd (fun h' k => q h' s.toks its r k) (by rw [List.size_toArray, ← r.length]; exact hz)
  · obtain ⟨its, r, ⟨o, ho, hc, n, hd⟩, hn⟩ := I.tuple c
    exact wpAny_collect_seq l (.inr rfl) ho hc hd (fun h' k => q h' s.toks its r k) (by rw [List.size_toArray, ← r.length]; exact hz)
  · obtain ⟨z, lo, vs, rel, dd⟩ := dk_of I.hok c
    obtain ⟨ep, hat⟩ := dd.dictAt
    have e0 : vs.length = kvs.length := rel.length.symm
    refine PySem.W.kdu_collect (A := A) (PySem.W.kdl_dict (knd := mixKind X.prog X.w) (kvs := vs) (ep := ep) lo) hh hat (by rw [e0]; simpa using hz) fun h' tk acc hk hacc => q h' tk acc.toList ?_ hk
    refine vals_of_get (by have := hacc.1; simp [this, e0]) fun i u e => ?_
    obtain ⟨k, x, e1, e2⟩ := hacc.2 i u (by rw [← Array.getElem?_toList]; exact e)
    have hk2 : (vs.map (·.1))[i]? = some k := by rw [List.getElem?_map, e1]; rfl
    rw [← rel.keys, List.getElem?_map] at hk2
    rw [List.getElem?_map]
    cases e3 : kvs[i]? with
    | none => rw [e3] at hk2; cases hk2
    | some p =>
      rw [e3] at hk2
      have e4 : p.1 = k := Option.some.inj hk2
      subst e4
      refine ⟨_, rfl, ?_⟩
      rcases keyIs_shape (show keyIs p.1 u = true from e2) with ⟨j, t, ek, ev⟩ | ⟨z, t, ek, ev⟩ <;> (show RelV (kV p.1) u; rw [ek, ev]; exact ⟨t, rfl⟩)
  · obtain ⟨ys, hd, hs, hl, rfl, e2, hv, hk, hn⟩ := dn_of I c rk
    obtain ⟨o, es, ep, ho, hx, hdat, he, his, _⟩ := id hd
    have e0 : es.size = ys.length := size_of_entries he
    refine PySem.W.kdu_collect (A := A) (KdlSrc.rawDict (es := es) (ep := ep) hs) hh ⟨o, ho, hx, hdat⟩ (by rw [e0]; exact hl) fun h' tk acc hk hacc => q h' tk acc.toList ?_ hk
    refine vals_of_get (by have := hacc.1; simp [this, e0]) fun i u e => ?_
    obtain ⟨hi, e1⟩ := hacc.2 i u (by rw [← Array.getElem?_toList]; exact e)
    have e2' := entry_at he i
    rw [Array.getElem?_eq_getElem hi] at e2'
    rw [List.getElem?_map]
    cases e3 : ys[i]? with
    | none => rw [e3] at e2'; cases e2'
    | some y =>
      rw [e3] at e2'
      have e4 : es[i] = entryOfKey (nk X) y := Option.some.inj e2'
      refine ⟨_, rfl, ?_⟩
      rw [e1, e4]
      rfl
/-- items that sorted takes, as data -/
theorem sortsAt {κs : List PyData} {A : Around} {s : Shared} {vs : List Value} (e : PySem.W.EachIs (fun v d => ∃ as, Reads s.heap v d as) vs κs) (hal : PySem.W.AllAlike κs) (hk : PySem.W.Sortable κs ∨ κs = [.tuple []]) (hu : ∀ d, d ∈ κs → A.units + d.depth < cLine) {P : Program} {w : World} : PySem.W.SortsAt P w A s (PySem.W.dataKind s.heap κs) vs := by
  rcases hk with hk | rfl
  · exact PySem.W.SortsAt.data e hal hk hu
  · refine ⟨fun v hv => ?_, tuples' true, ?_, fun h2 => ?_⟩
    · obtain ⟨d, hd, as, r⟩ := e.left v hv
      exact ⟨_, PySem.W.dataKind_some hal hd r⟩
    · intro E x y a b Q ha hb hq
      obtain ⟨d, as, hd, ra, rfl⟩ := PySem.W.dataKind_inv ha
      obtain ⟨d', bs, hd', rb, rfl⟩ := PySem.W.dataKind_inv hb
      rw [List.mem_singleton] at hd hd'
      subst hd hd'
      cases ra with
      | @tuple la oa xs na _ _ h1 h2 h3 h4 =>
        cases rb with
        | @tuple lb ob xs' nb _ _ k1 k2 k3 k4 =>
          have n1 : xs.toList = [] := by cases h' : xs.toList with
            | nil => rfl
            | cons a b => rw [h'] at h4; cases h4
          have n2 : xs'.toList = [] := by cases h' : xs'.toList with
            | nil => rfl
            | cons a b => rw [h'] at k4; cases k4
          have hq' : Q (PySem.W.dataLt (.tuple []) (.tuple [])) s := hq
          rw [PySem.W.dataLt_tuple] at hq'
          refine PySem.W.kat_lt h1 h3 k1 k3 (PySem.W.katLex_alike [] [] 0 _ _ _ _ h4 k4 rfl ?_ (fun _ _ x r t ex => nomatch ex) ?_ hq')
          · have := hu (.tuple []) (by simp)
            simp [PyData.depth, PyData.depthAll] at this ⊢
            omega
          · simp [← Array.length_toList, n1, n2]
    · have := e.length
      simp at this
      omega
end
end Nr
namespace Nr
open PySem PySem.Spec PyProof.Rows L2
theorem alikes_of {xs : List D} (h : alikes xs = true) : xs.all (plain 60) = true ∧ PySem.W.AllAlike (xs.map toP) := by
  unfold alikes at h
  rw [Bool.and_eq_true] at h
  refine ⟨h.1, fun d hd d' hd' => ?_⟩
  obtain ⟨x, hx, rfl⟩ := List.mem_map.mp hd
  obtain ⟨y, hy, rfl⟩ := List.mem_map.mp hd'
  exact List.all_eq_true.mp (List.all_eq_true.mp h.2 x hx) y hy
theorem sortable_of {xs : List D} (h : sortable xs) : PySem.W.Sortable (xs.map toP) ∨ xs.map toP = [.tuple []] := by
  rcases h.2 with h | h | h
  · refine .inl (.inl fun d hd => ?_)
    obtain ⟨x, hx, rfl⟩ := List.mem_map.mp hd
    have := List.all_eq_true.mp h x hx
    unfold isTup1 at this
    split at this
    · rename_i y ys
      exact ⟨toP y, toP.toPs ys, by simp only [toP, toP.toPs]⟩
    · cases this
  · refine .inl (.inr fun d hd => ?_)
    obtain ⟨x, hx, rfl⟩ := List.mem_map.mp hd
    have := List.all_eq_true.mp h x hx
    unfold isAtom at this
    split at this <;> first | (cases this; done) | exact ⟨fun e => (by simp [toP] at e), fun xs e => (by simp [toP] at e)⟩
  · subst h
    exact .inr rfl
section
variable {X : Cx} {pins : List (Addr × Obj)} {σ : _root_.L2.St} {H : Hp} {s : Shared} {m : Nb} {L : Hl}
/-- items and what stands for them, in pairs -/
theorem each_zip {W : Wd} : ∀ {kv : List V} {xs : List D} {us : List Value}, RepVs W m L H kv xs → Vals kv us → PySem.W.EachIs (fun u (b : V × D) => RelV b.1 u ∧ RepV W m L H b.1 b.2) us (kv.zip xs)
  | _, _, _, .nil, .nil => .nil
  | _, _, _, .cons r t, .cons r' t' => .cons ⟨r', r⟩ (each_zip t t')
theorem each_reads (I : Inv X pins σ H s) : ∀ {kv : List V} {xs : List D} {us : List Value}, RepVs (wd X) m L H kv xs → Vals kv us → xs.all (plain 60) = true → PySem.W.EachIs (fun u (b : V × D) => ∃ as, Reads s.heap u (toP b.2) as) us (kv.zip xs)
  | _, _, _, .nil, .nil, _ => .nil
  | _, _, _, .cons r t, .cons r' t', h => by
    rw [List.all_cons, Bool.and_eq_true] at h
    obtain ⟨h1, _, _⟩ := dp_of r 60 h.1
    exact .cons (Dp.reads I _ _ _ h1 r') (each_reads I t t' h.2)
theorem zip_snd {W : Wd} : ∀ {kv : List V} {xs : List D}, RepVs W m L H kv xs → (kv.zip xs).map (·.2) = xs
  | _, _, .nil => rfl
  | _, _, .cons _ t => congrArg (_ :: ·) (zip_snd t)
theorem each_out {W : Wd} : ∀ {zs : List (V × D)} {us : List Value}, PySem.W.EachIs (fun u (b : V × D) => RelV b.1 u ∧ RepV W m L H b.1 b.2) us zs → Vals (zs.map (·.1)) us ∧ RepVs W m L H (zs.map (·.1)) (zs.map (·.2))
  | _, _, .nil => ⟨.nil, .nil⟩
  | _, _, .cons h t => ⟨.cons h.1 (each_out t).1, .cons h.2 (each_out t).2⟩
def rSortN (W : Wd) : List V → Hp → VK → Prop := fun vs H Q => ∃ l m L kv xs, vs = [.ref l] ∧ CollV W H l kv ∧ RepVs W m L H kv xs ∧ sortable xs ∧ xs.length ≤ sizeLine ∧ ∀ p vs', H p = none → RepVs W m L H vs' (sortD xs) → Q (.ref p) (upd H p (.lst vs'))
theorem call_sortN (hc : X.calm = true) (hu : X.A.units + 130 < cLine) : CallR X (.builtin "sorted") (rSortN (wd X)) := by
  intro pins s σ H vs us Q I r ⟨l, m, L, kv, xs, e, c, rv, hs, hz, q⟩
  subst e
  obtain ⟨u, rfl, ru⟩ := vals1 r
  cases ru
  have hkv : kv.length ≤ sizeLine := by rw [rv.length]; exact hz
  obtain ⟨hp, hal⟩ := alikes_of hs.1
  refine Calls.call_function_entry PyProof.Rows.kind_sorted PyProof.Rows.plain_sorted PyProof.Rows.entry_sorted (PyProof.Rows.args_sorted1 _) ?_
  unfold Builtin.«sorted»
  refine wpAny_bind (m := checkCount "sorted" 1 1 _) (wpAny_pure ?_)
  refine wpAny_bind (coll_run (A := X.A.in1) I c hkv (I.ok.hd hc) fun h1 tk acc hv hk => ?_)
  have I1 : Inv X pins σ H { s with heap := h1, toks := tk } := I.kept hk
  have hacc : acc.length ≤ sizeLine := by rw [← hv.length]; exact hkv
  refine wpAny_bind (wpAny_newList ?_ hacc)
  have hN : (h1.push (seqObj "list" acc.toArray 0)).get? h1.objs.size = some (seqObj "list" acc.toArray 0) := Heap.get?_push_size _ rfl
  have er := each_reads I1 rv hv hp
  have er2 : PySem.W.EachIs (fun u (b : V × D) => ∃ as, Reads (PySem.W.sortingHeap (h1.push (seqObj "list" acc.toArray 0)) h1.objs.size acc) u (toP b.2) as) acc (kv.zip xs) := er.mono fun u b ⟨as, rd⟩ => ⟨as, PyProof.Rows.Reads.keeps (fun a o e => PySem.W.sortingHeap_old (Nat.ne_of_lt (Heap.lt_size e)) (Heap.get?_push_of_some _ e)) rd⟩
  have mp : (kv.zip xs).map (fun b => toP b.2) = xs.map toP := by
    rw [show (fun b : V × D => toP b.2) = toP ∘ (·.2) from rfl, ← List.map_map, zip_snd rv]
  have hS : PySem.W.SortsAt X.prog X.w X.A.in1.in1 { s with heap := PySem.W.sortingHeap (h1.push (seqObj "list" acc.toArray 0)) h1.objs.size acc, toks := tk } (PySem.W.dataKind (PySem.W.sortingHeap (h1.push (seqObj "list" acc.toArray 0)) h1.objs.size acc) ((kv.zip xs).map fun b => toP b.2)) acc := by
    refine sortsAt (s := { s with heap := PySem.W.sortingHeap (h1.push (seqObj "list" acc.toArray 0)) h1.objs.size acc, toks := tk }) (PySem.W.each_map (R := fun u d => ∃ as, Reads (PySem.W.sortingHeap (h1.push (seqObj "list" acc.toArray 0)) h1.objs.size acc) u d as) (fun b : V × D => toP b.2) er2) (by rw [mp]; exact hal) (by rw [mp]; exact sortable_of hs) fun d hd => ?_
    rw [mp] at hd
    obtain ⟨x, hx, rfl⟩ := List.mem_map.mp hd
    have hpx := List.all_eq_true.mp hp x hx
    obtain ⟨j, hj⟩ := List.getElem?_of_mem hx
    obtain ⟨v, _, rx⟩ := rv.getD hj
    have := (dp_of rx 60 hpx).2.2
    show X.A.units + 1 + 1 + _ < _
    omega
  refine wpAny_bind (wpAny_holding (wpAny_call_entry PyProof.Rows.slot_list_sort ⟨_, hN, rfl⟩ PyProof.Rows.entry_list_sort
    (PySem.W.list_sort_vals (s := { s with heap := h1.push (seqObj "list" acc.toArray 0), toks := tk }) hN hS hacc ⟨_, rfl, ?_⟩) (PyProof.Rows.args_list_sort _)))
  have hout := PySem.W.sortVals_data (h' := PySem.W.sortingHeap (h1.push (seqObj "list" acc.toArray 0)) h1.objs.size acc) (enc := fun b : V × D => toP b.2) false (each_zip rv hv) er2 (by rw [mp]; exact hal)
  obtain ⟨o1, o2⟩ := each_out hout
  generalize hO : PySem.W.sortVals (PySem.W.dataKind (PySem.W.sortingHeap (h1.push (seqObj "list" acc.toArray 0)) h1.objs.size acc) ((kv.zip xs).map fun b => toP b.2)) false acc acc = out at o1 o2 hout ⊢
  have esn : ((kv.zip xs).mergeSort (PySem.W.dataLe false fun b : V × D => toP b.2)).map (·.2) = sortD xs := by
    have := PySem.W.sort_maps (r := PySem.W.dataLe false fun b : V × D => toP b.2) (s := fun a b => !dlt b a) (fun b : V × D => b.2) (l := kv.zip xs) fun a _ b _ => rfl
    rw [zip_snd rv] at this
    exact this
  rw [esn] at o2
  generalize hzs : ((kv.zip xs).mergeSort (PySem.W.dataLe false fun b : V × D => toP b.2)).map (·.1) = vs' at o1 o2
  obtain ⟨e', he'⟩ := PyProof.Rows.sortedHeap_at (vs := acc) (out := out.toArray) hN
  have hlen : vs'.length ≤ sizeLine := by
    rw [o2.length]
    unfold sortD
    rw [List.length_mergeSort]
    exact hz
  refine wpAny_pure ⟨_, rfl, .ref h1.objs.size, upd H h1.objs.size (.lst vs'), I1.laid (t' := tk) (fun b u e => ?_) (Nat.le_refl _) (show ObjOk X.prog X.w _ _ _ (.lst vs') from ⟨hlen, out, e', o1, he'⟩), rfl, q _ vs' (I1.hok.fresh (Nat.le_refl _)) o2⟩
  have hb : b < h1.objs.size := Heap.lt_size e
  rw [PyProof.Rows.sortedHeap_old (Nat.ne_of_lt hb) (by rw [size_push']; exact Nat.lt_succ_of_lt hb)]
  exact Heap.get?_push_of_some _ e
end
end Nr

namespace Nr
open PySem PySem.Spec PyProof.Rows L2
section
variable {Φ : Phi} {B : Option En} {E : XS} {k : Nat} {Γ : Gm} {X : Cx} {e : Expr} {pos : Pos}
/-- a sequence's items, a dict's keys -/
theorem keys_ok {W : Wd} {m : Nb} {L : Hl} {H : Hp} {v : V} {x : D} {Qd : List D → Prop} (rl : RepL W m L H) (r : RepV W m L H v x) (h : seqDK L x Qd) : ∃ l kv xs, v = .ref l ∧ CollV W H l kv ∧ RepVs W m L H kv xs ∧ Qd xs := by
  unfold seqDK at h
  split at h
  · rename_i t ks vs ex
    obtain ⟨p, kv, vv, rfl, h1, h2, h3⟩ := res_dct rl r ex
    cases t with
    | false =>
      obtain ⟨kvs, hk, e1, _⟩ := h1
      exact ⟨p, kv, ks, rfl, .inr (.inr (.inl ⟨kvs, hk, e1⟩)), h2, h⟩
    | true => exact ⟨p, kv, ks, rfl, .inr (.inr (.inr ⟨m, L, ks, vv, h1, h2⟩)), h2, h⟩
  · obtain ⟨p, vs, xs, rfl, h1, h2, h3⟩ := seq_ok rl r h
    refine ⟨p, vs, xs, rfl, ?_, h1, h2⟩
    rcases h3 with h3 | h3
    · exact .inl h3
    · exact .inr (.inl h3.1)
theorem f_sorted {x : Str} {p : Pos} {t : TD} (G : Good Φ B E k Γ X) (hx : Γ.gl x = true) (hxe : x = Str.ofString "sorted") (hs : starE e = false) (h : DE X (wd X) B e t) : DF X (wd X) B (.Call (.Name x p) [e] [] pos) (fun ds L Q => t ds L fun x L1 => seqDK L1 x fun xs => (sortable xs ∧ xs.length ≤ sizeLine) ∧ Q (sortD xs) L1) := by
  obtain ⟨g1, g2, g3⟩ := G.gl hx
  refine peI (pe_callB (call_sortN G.calm (by have := G.units; omega)) g1 (by rw [hxe]; exact G.blt _ (by decide +kernel)) (by rw [hxe]; decide +kernel) (pa_cons h pa_nil (star_of hs)) g3 g2 (star_of hs)) fun σ H Q ⟨m, L, ds, Qd, S, q, c⟩ =>
    ⟨m, L, ds, _, S, q, fun d L1 v m1 H1 q1 st1 rl1 r1 => ?_⟩
  obtain ⟨l, kv, xs, rfl, hc, rv, hq⟩ := keys_ok rl1 r1 q1
  exact ⟨l, m1, L1, kv, xs, rfl, hc, rv, hq.1.1, hq.1.2, fun p vs' hp r' => c _ L1 _ _ p hq.2 (newAt_upd S.rl st1 rl1 hp r')⟩
end
end Nr

/-! The small language does what the text does: all expressions, by one recursion. -/
namespace Nr
open PySem PySem.Spec PyProof.Rows L2
section
variable {Φ : Phi} {k : Nat}
theorem nb {b : Bool} (h : (!b) = true) : b = false := by simpa using h
theorem isOmit_false {Γ : Gm} {ir : IE} {e : Expr} (h : chkE Γ ir e = true) : isOmit ir = false := by
  cases ir <;> first | rfl | (simp [chkE] at h; done)
theorem es_nil {Γ : Gm} {es : List Expr} {ir : IEs} (h : chkEs Γ ir es = true) (he : es = []) : ir = .nil := by
  subst he
  cases ir with
  | nil => rfl
  | cons a b => simp [chkEs] at h
theorem po_all {B : Option En} {E : XS} {Γ : Gm} {X : Cx} {il : IE} {lo : Option Expr} (h : chkO Γ il lo = true) (hE : ∀ e, chkE Γ il e = true → DE X (wd X) B e (tE Φ E il)) : PO X lo (lO (wd X) B (isOmit il) (tE Φ E il)) := by
  cases lo with
  | none => cases il <;> first | exact po_omit | cases h
  | some e =>
    have h : chkE Γ il e = true := h
    rw [isOmit_false h]
    exact po_e (hE e h)
theorem in_two {B : Option En} {E : XS} {Γ : Gm} {X : Cx} {e : Expr} {t : TD} (h : DE X (wd X) B e t ∧ DT X (wd X) B e t) : DE X (wd X) B e t := h.1
theorem foldI {Γ : Gm} {ir : II} {e : Expr} {env : Env} (h : chkI Γ ir e = true) : ∀ x, foldedSetIterable e env x = pure x := fun x => by
  cases ir with
  | seq i => exact fold_of (chkE_star i e (by unfold chkI at h; exact h))
  | _ => unfold chkI at h; split at h <;> first | rfl | cases h
mutual
theorem sndE {B : Option En} {E : XS} {Γ : Gm} {X : Cx} (G : Good Φ B E k Γ X) : ∀ (ir : IE) (e : Expr), chkE Γ ir e = true → DE X (wd X) B e (tE Φ E ir) ∧ DT X (wd X) B e (tE Φ E ir)
  | .var i, e, h => by
    unfold chkE at h; split at h <;> first | (cases h; done) | skip
    exact both (cvE (de_var (G.var h)) fun ds L Q q => by unfold tE semE at q; exact q) fun _ => rfl
  | .give i, e, h => by
    unfold chkE at h; split at h <;> first | (cases h; done) | skip
    exact both (cvE (de_give (G.var h)) fun ds L Q q => by unfold tE semE at q; exact q) fun _ => rfl
  | .int i, e, h => by
    unfold chkE at h; split at h <;> first | (cases h; done) | skip
    cases of_decide_eq_true h
    exact both (cvE (de_int pe_int) fun ds L Q q => by unfold tE semE at q; exact q) fun _ => rfl
  | .str s, e, h => by
    unfold chkE at h; split at h <;> first | (cases h; done) | skip
    obtain ⟨h1, h2⟩ := b2 h
    cases of_decide_eq_true h1
    exact both (cvE (de_str h2 pe_str) fun ds L Q q => by unfold tE semE at q; exact q) fun _ => rfl
  | .bl b, e, h => by
    unfold chkE at h; split at h <;> first | (cases h; done) | skip
    rename_i c _ _
    have hbc : b = c := by simpa using h
    cases hbc
    exact both (cvE (de_bl pe_bl) fun ds L Q q => by unfold tE semE at q; exact q) fun _ => rfl
  | .non, e, h => by
    unfold chkE at h; split at h <;> first | (cases h; done) | skip
    exact both (cvE (de_non pe_non) fun ds L Q q => by unfold tE semE at q; exact q) fun _ => rfl
  | .gint x i, e, h => by
    unfold chkE at h; split at h <;> first | (cases h; done) | skip
    obtain ⟨h1, h3⟩ := b2 h
    obtain ⟨h1, h2⟩ := b2 h1
    obtain ⟨g1, g2, g3⟩ := G.gl h1
    obtain ⟨t, ht⟩ := G.cst _ i (of_decide_eq_true h3)
    exact both (cvE (de_int (pe_glob g1 ht ⟨t, rfl⟩ g2)) fun ds L Q q => by unfold tE semE at q; exact q) fun _ => rfl
  | .omit, e, h => by simp [chkE] at h
  | .tup es, e, h => by
    unfold chkE at h; split at h <;> first | (cases h; done) | skip
    exact both (cvE (e_tup (sndEs G es _ h)) fun ds L Q q => by unfold tE semE at q; exact q) fun _ => rfl
  | .frz f, e, h => by
    replace h : chkF Γ f e = true := by unfold chkE at h; exact h
    have := e_frz (sndF G f e h)
    refine both (cvE this fun ds L Q q => by unfold tE semE at q; exact q) ?_
    cases f <;> unfold chkF at h <;> (try split at h) <;> first | exact fun _ => rfl | (cases h; done)
  | .newl f, e, h => by
    replace h : chkF Γ f e = true := by unfold chkE at h; exact h
    have := e_newl (sndF G f e h)
    refine both (cvE this fun ds L Q q => by unfold tE semE at q; exact q) ?_
    cases f <;> unfold chkF at h <;> (try split at h) <;> first | exact fun _ => rfl | (cases h; done)
  | .frzd f, e, h => by
    replace h : chkD Γ f e = true := by unfold chkE at h; exact h
    refine both (cvE (e_frzd (sndD G f e h)) fun ds L Q q => by unfold tE semE at q; exact q) ?_
    cases f <;> unfold chkD at h <;> (try split at h) <;> first | exact fun _ => rfl | (cases h; done)
  | .newd f, e, h => by
    replace h : chkD Γ f e = true := by unfold chkE at h; exact h
    refine both (cvE (e_newd (sndD G f e h)) fun ds L Q q => by unfold tE semE at q; exact q) ?_
    cases f <;> unfold chkD at h <;> (try split at h) <;> first | exact fun _ => rfl | (cases h; done)
  | .bin o a b, e, h => by
    unfold chkE at h; split at h <;> first | (cases h; done) | skip
    obtain ⟨h1, h3⟩ := b2 h
    obtain ⟨h1, h2⟩ := b2 h1
    exact both (cvE (bin_all h1 (sndE G a _ h2).1 (sndE G b _ h3).1) fun ds L Q q => by unfold tE semE at q; exact q) fun _ => rfl
  | .cmp o a b, e, h => by
    unfold chkE at h; split at h <;> first | (cases h; done) | skip
    obtain ⟨h1, h4⟩ := b2 h
    obtain ⟨h1, h3⟩ := b2 h1
    obtain ⟨h1, h2⟩ := b2 h1
    have h4 := nb h4
    obtain ⟨r, hr, ho⟩ := cmp_ex G.units h1
    exact ⟨cvE (de_cmp hr ho (sndE G a _ h2).1 (sndE G b _ h3).1 h4) fun ds L Q q => by unfold tE semE at q; exact q, cvT (t_cmp hr ho (sndE G a _ h2).1 (sndE G b _ h3).1 h4) fun ds L Q q => by unfold tE semE at q; exact q⟩
  | .chain o o' a b c, e, h => by
    unfold chkE at h; split at h <;> first | (cases h; done) | skip
    obtain ⟨h1, h7⟩ := b2 h
    obtain ⟨h1, h6⟩ := b2 h1
    obtain ⟨h1, h5⟩ := b2 h1
    obtain ⟨h1, h4⟩ := b2 h1
    obtain ⟨h1, h3⟩ := b2 h1
    obtain ⟨h1, h2⟩ := b2 h1
    have h7 := nb h7
    obtain ⟨r, hr, ho⟩ := cmp_ex G.units h1
    obtain ⟨r', hr', ho'⟩ := cmp_ex G.units h2
    exact ⟨cvE (e_chain hr ho hr' ho' (sndE G a _ h3).1 (sndE G b _ h4).1 (sndE G c _ h5).1 h7) fun ds L Q q => by unfold tE semE at q; exact q, cvT (t_chain hr ho hr' ho' (sndE G a _ h3).1 (sndE G b _ h4).1 (sndE G c _ h5).1 h7) fun ds L Q q => by unfold tE semE at q; exact q⟩
  | .neg a, e, h => by
    unfold chkE at h; split at h <;> first | (cases h; done) | skip
    exact both (cvE (neg_ok (sndE G a _ h).1) fun ds L Q q => by unfold tE semE at q; exact q) fun _ => rfl
  | .not a, e, h => by
    unfold chkE at h; split at h <;> first | (cases h; done) | skip
    exact ⟨cvE (e_not (sndE G a _ h).1) fun ds L Q q => by unfold tE semE at q; exact q, cvT (t_not (sndE G a _ h).2) fun ds L Q q => by unfold tE semE at q; exact q⟩
  | .and es, e, h => by
    unfold chkE at h; split at h <;> first | (cases h; done) | skip
    obtain ⟨h1, h2⟩ := sndAnd G es _ _ h
    exact ⟨cvE h1 fun ds L Q q => by unfold tE semE at q; exact q, cvT h2.pt fun ds L Q q => by unfold tE semE at q; exact q⟩
  | .or es, e, h => by
    unfold chkE at h; split at h <;> first | (cases h; done) | skip
    obtain ⟨h1, h2⟩ := sndOr G es _ _ h
    exact ⟨cvE h1 fun ds L Q q => by unfold tE semE at q; exact q, cvT h2.pt fun ds L Q q => by unfold tE semE at q; exact q⟩
  | .ite c a b, e, h => by
    unfold chkE at h; split at h <;> first | (cases h; done) | skip
    obtain ⟨h1, h3⟩ := b2 h
    obtain ⟨h1, h2⟩ := b2 h1
    exact ⟨cvE (e_ite (sndE G c _ h1).2 (sndE G a _ h2).1 (sndE G b _ h3).1) fun ds L Q q => by unfold tE semE at q; exact q, cvT (t_ite (sndE G c _ h1).2 (sndE G a _ h2).2 (sndE G b _ h3).2) fun ds L Q q => by unfold tE semE at q; exact q⟩
  | .idx a b, e, h => by
    unfold chkE at h; split at h <;> first | (cases h; done) | skip
    obtain ⟨h1, h3⟩ := b2 h
    obtain ⟨h1, h2⟩ := b2 h1
    have h3 := nb h3
    exact both (cvE (idx_ok (by have := G.units; omega) h3 (sndE G a _ h1).1 (sndE G b _ h2).1) fun ds L Q q => by unfold tE semE at q; exact q) fun _ => rfl
  | .slc a lo hi, e, h => by
    unfold chkE at h; split at h <;> first | (cases h; done) | skip
    obtain ⟨h1, h3⟩ := b2 h
    obtain ⟨h1, h2⟩ := b2 h1
    exact both (cvE (slc_all (sndE G a _ h1).1 (po_all h2 fun e h => (sndE G lo e h).1) (po_all h3 fun e h => (sndE G hi e h).1)) fun ds L Q q => by unfold tE semE at q; exact q) fun _ => rfl
  | .call f es, e, h => by
    unfold chkE at h; split at h <;> first | (cases h; done) | skip
    rename_i x p es' pos
    obtain ⟨h1, h4⟩ := b2 h
    obtain ⟨h1, h3⟩ := b2 h1
    obtain ⟨h1, h2⟩ := b2 h1
    cases of_decide_eq_true h2
    cases es' with
    | nil =>
      cases es_nil h4 rfl
      exact both (cvE (call0_ok G h1 h3) fun ds L Q q => by unfold tE semE semEs at q; exact q) fun _ => rfl
    | cons a r => exact both (cvE (call_ok G h1 h3 (chkEs_star es _ h4) (sndEs G es _ h4)) fun ds L Q q => by unfold tE semE at q; exact q) fun _ => rfl
  | .callk f es ks perm, e, h => by
    unfold chkE at h; split at h <;> first | (cases h; done) | skip
    rename_i x p es' kws pos
    obtain ⟨h1, h9⟩ := b2 h
    obtain ⟨h1, h8⟩ := b2 h1
    obtain ⟨h1, h7⟩ := b2 h1
    obtain ⟨h1, h6⟩ := b2 h1
    obtain ⟨h1, h5⟩ := b2 h1
    obtain ⟨h1, h4⟩ := b2 h1
    obtain ⟨h1, h3⟩ := b2 h1
    obtain ⟨h1, h2⟩ := b2 h1
    cases of_decide_eq_true h2
    refine both (cvE (callk_ok (t := tEs Φ E es) (u := tEs Φ E ks) G h1 h3 (chkEs_star es _ h4) h6 (of_decide_eq_true h7) (of_decide_eq_true h8) (of_decide_eq_true h9) (sndEs G es _ h4) (fun e0 => ?_) (sndK G ks _ h5)) fun ds L Q q => by unfold tE semE at q; exact q) fun _ => rfl
    cases es_nil h4 e0
    funext ds L Q
    show semEs Φ .nil _ ds L Q = Q [] L
    unfold semEs
    rfl
  | .bi b es, e, h => by
    unfold chkE at h; split at h <;> first | (cases h; done) | skip
    rename_i x p es' pos
    simp only [Bool.and_eq_true] at h
    obtain ⟨⟨⟨h1, h2⟩, h3⟩, h4⟩ := h
    cases es' with
    | nil => cases h3
    | cons a r => exact both (cvE (bi_ok G h1 (of_decide_eq_true h2) (chkEs_star es _ h4) (sndEs G es _ h4)) fun ds L Q q => by unfold tE semE at q; exact q) fun _ => rfl
  | .tupr r, e, h => by
    unfold chkE at h; split at h <;> first | (cases h; done) | skip
    obtain ⟨h1, h5⟩ := b2 h
    obtain ⟨h1, h4⟩ := b2 h1
    obtain ⟨h1, h3⟩ := b2 h1
    obtain ⟨h1, h2⟩ := b2 h1
    exact both (cvE (e_tupr G h1 (of_decide_eq_true h2) rfl (sndR G r _ _ _ _ h3 (of_decide_eq_true h4) h5)) fun ds L Q q => by unfold tE semE at q; exact q) fun _ => rfl
  | .isi a t, e, h => by
    unfold chkE at h; split at h <;> first | (cases h; done) | skip
    obtain ⟨h1, h4⟩ := b2 h
    obtain ⟨h1, h3⟩ := b2 h1
    obtain ⟨h1, h2⟩ := b2 h1
    exact both (cvE (isi_all G h1 (of_decide_eq_true h2) h4 (chkE_star a _ h3) (sndE G a _ h3).1) fun ds L Q q => by unfold tE semE at q; exact q) fun _ => rfl
  | .meth m a es, e, h => by
    unfold chkE at h; split at h <;> first | (cases h; done) | skip
    rename_i a' x ap es' cp
    simp only [Bool.and_eq_true] at h
    obtain ⟨⟨⟨h1, ⟨⟨h2, h5⟩, h6⟩, h7⟩, h3⟩, h4⟩ := h
    cases es' with
    | nil =>
      cases es_nil h4 rfl
      have hm : m = .pop := by simpa using h7
      exact both (cvE (meth0_ok G (of_decide_eq_true h1) hm h2 h5 (sndE G a _ h3).1) fun ds L Q q => by unfold tE semE semEs at q; exact q) fun _ => rfl
    | cons b r => exact both (cvE (meth_ok G (of_decide_eq_true h1) h2 h5 (of_decide_eq_true h6) (chkEs_star es _ h4) (sndE G a _ h3).1 (sndEs G es _ h4)) fun ds L Q q => by unfold tE semE at q; exact q) fun _ => rfl
  | .dget a i d, e, h => by
    unfold chkE at h; split at h <;> first | (cases h; done) | skip
    simp only [Bool.and_eq_true] at h
    obtain ⟨⟨⟨⟨h1, h2, h5⟩, h3⟩, h4⟩, h6⟩ := h
    exact both (cvE (e_dget G (of_decide_eq_true h1) h2 h5 (chkE_star i _ h4) (chkE_star d _ h6) (sndE G a _ h3).1 (sndE G i _ h4).1 (sndE G d _ h6).1) fun ds L Q q => by unfold tE semE at q; exact q) fun _ => rfl
theorem sndEs {B : Option En} {E : XS} {Γ : Gm} {X : Cx} (G : Good Φ B E k Γ X) : ∀ (ir : IEs) (es : List Expr), chkEs Γ ir es = true → DA X (wd X) B es (tEs Φ E ir)
  | .nil, es, h => by
    unfold chkEs at h; split at h <;> first | (cases h; done) | skip
    exact cvA a_nil fun ds L Q q => by unfold tEs semEs at q; exact q
  | .cons i ir, es, h => by
    unfold chkEs at h; split at h <;> first | (cases h; done) | skip
    obtain ⟨h1, h2⟩ := b2 h
    exact cvA (a_cons (chkE_star i _ h1) (sndE G i _ h1).1 (sndEs G ir _ h2)) fun ds L Q q => by unfold tEs semEs at q; exact q
theorem sndAnd {B : Option En} {E : XS} {Γ : Gm} {X : Cx} (G : Good Φ B E k Γ X) : ∀ (ir : IEs) (es : List Expr) (pos : Pos), chkEs Γ ir es = true →
    DE X (wd X) B (.BoolOp .And es pos) (fun ds L Q => semAnd Φ ir (fun c L => E c ds L) ds L Q) ∧ DW X (wd X) B (.BoolOp .And es pos) (fun ds L Q => semAnd Φ ir (fun c L => E c ds L) ds L Q)
  | .nil, es, pos, h => by
    refine ⟨⟨fun pins s σ H Q I z => ?_⟩, ⟨fun wh pins s σ H Q I z => ?_⟩⟩ <;> (obtain ⟨m, L, ds, Qd, S, q, c⟩ := z; unfold semAnd at q; exact q.elim)
  | .cons i .nil, es, pos, h => by
    unfold chkEs at h; split at h <;> first | (cases h; done) | skip
    obtain ⟨h1, h2⟩ := b2 h
    unfold chkEs at h2; split at h2 <;> first | (cases h2; done) | skip
    obtain ⟨g1, g2⟩ := sndE G i _ h1
    exact ⟨cvE (pe_one g1) fun ds L Q q => by unfold semAnd at q; exact q, cvW (t_and1 g2) fun ds L Q q => by unfold semAnd at q; exact q⟩
  | .cons i (.cons j ir), es, pos, h => by
    unfold chkEs at h; split at h <;> first | (cases h; done) | skip
    obtain ⟨h1, h2⟩ := b2 h
    obtain ⟨g1, g2⟩ := sndE G i _ h1
    obtain ⟨f1, f2⟩ := sndAnd G (.cons j ir) _ pos h2
    unfold chkEs at h2; split at h2 <;> first | (cases h2; done) | skip
    exact ⟨cvE (e_and g1 f1) fun ds L Q q => by unfold semAnd at q; exact q, cvW (t_and g2 f2) fun ds L Q q => by unfold semAnd at q; exact q⟩
theorem sndOr {B : Option En} {E : XS} {Γ : Gm} {X : Cx} (G : Good Φ B E k Γ X) : ∀ (ir : IEs) (es : List Expr) (pos : Pos), chkEs Γ ir es = true →
    DE X (wd X) B (.BoolOp .Or es pos) (fun ds L Q => semOr Φ ir (fun c L => E c ds L) ds L Q) ∧ DW X (wd X) B (.BoolOp .Or es pos) (fun ds L Q => semOr Φ ir (fun c L => E c ds L) ds L Q)
  | .nil, es, pos, h => by
    refine ⟨⟨fun pins s σ H Q I z => ?_⟩, ⟨fun wh pins s σ H Q I z => ?_⟩⟩ <;> (obtain ⟨m, L, ds, Qd, S, q, c⟩ := z; unfold semOr at q; exact q.elim)
  | .cons i .nil, es, pos, h => by
    unfold chkEs at h; split at h <;> first | (cases h; done) | skip
    obtain ⟨h1, h2⟩ := b2 h
    unfold chkEs at h2; split at h2 <;> first | (cases h2; done) | skip
    obtain ⟨g1, g2⟩ := sndE G i _ h1
    exact ⟨cvE (pe_one g1) fun ds L Q q => by unfold semOr at q; exact q, cvW (t_or1 g2) fun ds L Q q => by unfold semOr at q; exact q⟩
  | .cons i (.cons j ir), es, pos, h => by
    unfold chkEs at h; split at h <;> first | (cases h; done) | skip
    obtain ⟨h1, h2⟩ := b2 h
    obtain ⟨g1, g2⟩ := sndE G i _ h1
    obtain ⟨f1, f2⟩ := sndOr G (.cons j ir) _ pos h2
    unfold chkEs at h2; split at h2 <;> first | (cases h2; done) | skip
    exact ⟨cvE (e_or g1 f1) fun ds L Q q => by unfold semOr at q; exact q, cvW (t_or g2 f2) fun ds L Q q => by unfold semOr at q; exact q⟩
theorem sndIf {B : Option En} {E : XS} {Γ : Gm} {X : Cx} (G : Good Φ B E k Γ X) : ∀ (ir : IEs) (es : List Expr), chkIf Γ ir es = true → PTs X es (lIf (wd X) B (tIff Φ E ir))
  | .nil, es, h => by
    unfold chkIf at h; split at h <;> first | (cases h; done) | skip
    exact ⟨fun pins s σ H Q I ⟨m, L, ds, Qd, S, q, c⟩ => pts_nil.run pins s σ H Q I (c true L m H (by unfold tIff semIf at q; exact q) Step.refl S.rl)⟩
  | .cons i .nil, es, h => by
    unfold chkIf at h; split at h <;> first | (cases h; done) | skip
    exact ⟨fun pins s σ H Q I ⟨m, L, ds, Qd, S, q, c⟩ => (pts_one (sndE G i _ h).2).run pins s σ H Q I ⟨m, L, ds, _, S, (by unfold tIff semIf at q; exact q), fun d L' m' H' q' st rl => by
      obtain ⟨b, e, q'⟩ := q'
      exact ⟨b, e, c b L' m' H' q' st rl⟩⟩⟩
  | .cons _ (.cons _ _), es, h => by simp [chkIf] at h
theorem sndK {B : Option En} {E : XS} {Γ : Gm} {X : Cx} (G : Good Φ B E k Γ X) : ∀ (ir : IEs) (ks : List Keyword), chkKs Γ ir ks = true → DK X (wd X) B ks (tEs Φ E ir)
  | .nil, es, h => by
    unfold chkKs at h; split at h <;> first | (cases h; done) | skip
    exact cvK k_nil fun ds L Q q => by unfold tEs semEs at q; exact q
  | .cons i ir, es, h => by
    unfold chkKs at h; split at h <;> first | (cases h; done) | skip
    obtain ⟨h1, h2⟩ := b2 h
    exact cvK (k_cons (sndE G i _ h1).1 (sndK G ir _ h2)) fun ds L Q q => by unfold tEs semEs at q; exact q
theorem sndR {B : Option En} {E : XS} {Γ : Gm} {X : Cx} (G : Good Φ B E k Γ X) : ∀ (ir : IR) (x : Str) (p pos : Pos) (es : List Expr), Γ.gl x = true → x = Str.ofString "range" → chkR Γ ir es = true → DR X (wd X) B (.Call (.Name x p) es [] pos) (tR Φ E ir)
  | .one b, x, p, pos, es, hx, hxe, h => by
    unfold chkR at h; split at h <;> first | (cases h; done) | skip
    exact cvR (r_1 G hx hxe (chkE_star b _ h) (sndE G b _ h).1) fun ds L Q q => by unfold tR semR at q; exact q
  | .two a b, x, p, pos, es, hx, hxe, h => by
    unfold chkR at h; split at h <;> first | (cases h; done) | skip
    obtain ⟨h1, h2⟩ := b2 h
    exact cvR (r_2 G hx hxe (chkE_star a _ h1) (chkE_star b _ h2) (sndE G a _ h1).1 (sndE G b _ h2).1) fun ds L Q q => by unfold tR semR at q; exact q
theorem sndI {B : Option En} {E : XS} {Γ : Gm} {X : Cx} (G : Good Φ B E k Γ X) : ∀ (ir : II) (tg e : Expr), chkI Γ ir e = true → tgOk ir tg = true → DI X (wd X) B tg e (tI Φ E ir)
  | .seq i, tg, e, h, _ => by
    have h : chkE Γ i e = true := by unfold chkI at h; exact h
    exact cvI (i_seq (sndE G i e h).1) fun ds L Q q => by unfold tI semI at q; exact q
  | .rng (.one b), tg, e, h, _ => by
    unfold chkI at h; split at h <;> first | (cases h; done) | skip
    obtain ⟨h1, h3⟩ := b2 h
    obtain ⟨h1, h2⟩ := b2 h1
    unfold chkR at h3; split at h3 <;> first | (cases h3; done) | skip
    exact cvI (i_rng1 G h1 (of_decide_eq_true h2) (chkE_star b _ h3) (sndE G b _ h3).1) fun ds L Q q => by unfold tI semI semR at q; exact q
  | .rng (.two a b), tg, e, h, _ => by
    unfold chkI at h; split at h <;> first | (cases h; done) | skip
    obtain ⟨h1, h3⟩ := b2 h
    obtain ⟨h1, h2⟩ := b2 h1
    unfold chkR at h3; split at h3 <;> first | (cases h3; done) | skip
    obtain ⟨h4, h5⟩ := b2 h3
    exact cvI (i_rng2 G h1 (of_decide_eq_true h2) (chkE_star a _ h4) (chkE_star b _ h5) (sndE G a _ h4).1 (sndE G b _ h5).1) fun ds L Q q => by unfold tI semI semR at q; exact q
  | .enum a, tg, e, h, ht => by
    unfold chkI at h; split at h <;> first | (cases h; done) | skip
    obtain ⟨h1, h3⟩ := b2 h
    obtain ⟨h1, h2⟩ := b2 h1
    cases tg <;> first | (simp [tgOk] at ht; done) | skip
    exact cvI (i_enum G h1 (of_decide_eq_true h2) (chkE_star a _ h3) (sndE G a _ h3).1) fun ds L Q q => by unfold tI semI at q; exact q
  | .zip a b, tg, e, h, ht => by
    unfold chkI at h; split at h <;> first | (cases h; done) | skip
    obtain ⟨h1, h4⟩ := b2 h
    obtain ⟨h1, h3⟩ := b2 h1
    obtain ⟨h1, h2⟩ := b2 h1
    cases tg <;> first | (simp [tgOk] at ht; done) | skip
    exact cvI (i_zip G h1 (of_decide_eq_true h2) (chkE_star a _ h3) (chkE_star b _ h4) (sndE G a _ h3).1 (sndE G b _ h4).1) fun ds L Q q => by unfold tI semI at q; exact q
theorem sndF {B : Option En} {E : XS} {Γ : Gm} {X : Cx} (G : Good Φ B E k Γ X) : ∀ (ir : IF) (e : Expr), chkF Γ ir e = true → DF X (wd X) B e (tF Φ E ir)
  | .disp es, e, h => by
    unfold chkF at h; split at h <;> first | (cases h; done) | skip
    exact cvF (f_disp (sndEs G es _ h)) fun ds L Q q => by unfold tF semF at q; exact q
  | .of i, e, h => by
    unfold chkF at h; split at h <;> first | (cases h; done) | skip
    obtain ⟨h1, h3⟩ := b2 h
    obtain ⟨h1, h2⟩ := b2 h1
    exact cvF (f_of G h1 (of_decide_eq_true h2) (chkE_star i _ h3) (sndE G i _ h3).1) fun ds L Q q => by unfold tF semF at q; exact q
  | .rng r, e, h => by
    unfold chkF at h; split at h <;> first | (cases h; done) | skip
    obtain ⟨h1, h5⟩ := b2 h
    obtain ⟨h1, h4⟩ := b2 h1
    obtain ⟨h1, h3⟩ := b2 h1
    obtain ⟨h1, h2⟩ := b2 h1
    exact cvF (f_rng G h1 (of_decide_eq_true h2) rfl (sndR G r _ _ _ _ h3 (of_decide_eq_true h4) h5)) fun ds L Q q => by unfold tF semF at q; exact q
  | .sorted i, e, h => by
    unfold chkF at h; split at h <;> first | (cases h; done) | skip
    obtain ⟨h1, h3⟩ := b2 h
    obtain ⟨h1, h2⟩ := b2 h1
    exact cvF (f_sorted G h1 (of_decide_eq_true h2) (chkE_star i _ h3) (sndE G i _ h3).1) fun ds L Q q => by unfold tF semF at q; exact q
  | .cat a b, e, h => by
    unfold chkF at h; split at h <;> first | (cases h; done) | skip
    obtain ⟨h1, h2⟩ := b2 h
    exact cvF (f_cat (sndE G a _ h1).1 (sndE G b _ h2).1) fun ds L Q q => by unfold tF semF at q; exact q
  | .rep a b, e, h => by
    unfold chkF at h; split at h <;> first | (cases h; done) | skip
    obtain ⟨h1, h2⟩ := b2 h
    exact cvF (f_rep (sndE G a _ h1).1 (sndE G b _ h2).1) fun ds L Q q => by unfold tF semF at q; exact q
  | .lc own i g it ifs, e, h => by
    unfold chkF at h; split at h <;> first | (cases h; done) | skip
    obtain ⟨h1, h5⟩ := b2 h
    obtain ⟨h1, h4⟩ := b2 h1
    obtain ⟨h1, h3⟩ := b2 h1
    obtain ⟨h1, h2⟩ := b2 h1
    obtain ⟨h3, h6⟩ := b2 h3
    obtain ⟨h2, h7⟩ := b2 h2
    exact cvF (f_lc (tif := tIff Φ NoX ifs) (te := tE Φ NoX i) G h1 (sndI G it _ _ h2 h7) (foldI h2) h3 h6 (fun X' hw G' => by have := sndIf G' ifs _ h4; rw [hw] at this; exact this) (fun X' hw G' => by have := (sndE G' i _ h5).1; rw [hw] at this; exact this)) fun ds L Q q => by unfold tF semF at q; exact q
  | .lc2 own own1 i g it ifs g1 it1 ifs1, e, h => by
    unfold chkF at h; split at h <;> first | (cases h; done) | skip
    obtain ⟨h1, h9⟩ := b2 h
    obtain ⟨h1, h8⟩ := b2 h1
    obtain ⟨h1, h7⟩ := b2 h1
    obtain ⟨h1, h6⟩ := b2 h1
    obtain ⟨h1, h5⟩ := b2 h1
    obtain ⟨h1, h4⟩ := b2 h1
    obtain ⟨h1, h3⟩ := b2 h1
    obtain ⟨h1, h2⟩ := b2 h1
    obtain ⟨h4, h4'⟩ := b2 h4
    obtain ⟨h7, h7'⟩ := b2 h7
    obtain ⟨h3, h3'⟩ := b2 h3
    obtain ⟨h6, h6'⟩ := b2 h6
    exact cvF (f_lc2 (ti1 := tI Φ NoX it1) (tif := tIff Φ NoX ifs) (tif1 := tIff Φ NoX ifs1) (te := tE Φ NoX i) G h1 h2 (sndI G it _ _ h3 h3') (foldI h3) (fun env x => foldI h6 (env := env) x) h4 h4' h7 h7' (fun X' hw G' => by have := sndIf G' ifs _ h5; rw [hw] at this; exact this) (fun X' hw G' => by have := sndI G' it1 _ _ h6 h6'; rw [hw] at this; exact this) (fun X' hw G' => by have := sndIf G' ifs1 _ h8; rw [hw] at this; exact this) (fun X' hw G' => by have := (sndE G' i _ h9).1; rw [hw] at this; exact this)) fun ds L Q q => by unfold tF semF at q; exact q
theorem sndD {B : Option En} {E : XS} {Γ : Gm} {X : Cx} (G : Good Φ B E k Γ X) : ∀ (ir : ID) (e : Expr), chkD Γ ir e = true → DFD X (wd X) B e (tDd Φ E ir)
  | .nil t, e, h => by
    unfold chkD at h; split at h <;> first | (cases h; done) | skip
    exact cvFD (f_dnilT (t := t)) fun ds L Q q => by unfold tDd semD at q; exact q
  | .one t i v, e, h => by
    unfold chkD at h; split at h <;> first | (cases h; done) | skip
    obtain ⟨h1, h2⟩ := b2 h
    exact cvFD (f_one (t := t) (by have := G.units; omega) (sndE G i _ h1).1 (sndE G v _ h2).1) fun ds L Q q => by unfold tDd semD at q; exact q
  | .dc t own i v g it ifs, e, h => by
    unfold chkD at h; split at h <;> first | (cases h; done) | skip
    obtain ⟨h1, h8⟩ := b2 h
    obtain ⟨h1, h5⟩ := b2 h1
    obtain ⟨h1, h4⟩ := b2 h1
    obtain ⟨h1, h3⟩ := b2 h1
    obtain ⟨h1, h2⟩ := b2 h1
    obtain ⟨h3, h6⟩ := b2 h3
    obtain ⟨h2, h7⟩ := b2 h2
    exact cvFD (f_dcT (t := t) (tif := tIff Φ NoX ifs) (tk := tE Φ NoX i) (tv := tE Φ NoX v) G h1 (sndI G it _ _ h2 h7) (foldI h2) h3 h6 (fun X' hw G' => by have := sndIf G' ifs _ h4; rw [hw] at this; exact this) (fun X' hw G' => by have := (sndE G' i _ h5).1; rw [hw] at this; exact this) (fun X' hw G' => by have := (sndE G' v _ h8).1; rw [hw] at this; exact this)) fun ds L Q q => by unfold tDd semD at q; exact q
  | .of _, e, h => by unfold chkD at h; cases h
end
end
end Nr

/-! Statements: rules over data. -/
namespace Nr
open PySem PySem.Spec PyProof.Rows L2
section
variable {env : Env} {x y z : Str} {px py pz pt pt2 : Pos} {kt k2 : Nat} {a b c : Expr}
theorem kind_blk (kf : env.scope.kind = .function) : env.blockKind = .function := by unfold Env.blockKind; rw [kf]; rfl
theorem sw2 (kf : env.scope.kind = .function) (hx : env.scope.names.lookup x = some .local) (hy : env.scope.names.lookup y = some .local) (hl : (py.line == px.line) = true) (hxy : (x == y) = false) (hs : ([a, b].all fun e => !starE e) = true)
    (hf : [a, b].all (foldedForSure 8) = false) (hc : [a, b].all (constantsAlone 8) = false) : swappedStores [.Tuple [.Name x px, .Name y py] kt pt] (.Tuple [a, b] k2 pt2) env = pure (some [x, y]) := by
  have hb := kind_blk kf
  have ex : env.kindOf x = some .local := hx
  have ey : env.kindOf y = some .local := hy
  have hd : [x, y].eraseDups.length = 2 := by
    have hxy' : (y == x) = false := by
      cases e : (y == x) with
      | false => rfl
      | true => have := eq_of_beq e; subst this; simp at hxy
    simp [List.eraseDups_cons, hxy']
  unfold swappedStores
  simp only [hb, ex, ey, hl, hf, hc, Expr.pos, List.filterMap_cons, List.filterMap_nil, List.head?_cons, Option.map_some, Option.getD_some, beq_self_eq_true, Bool.and_self, if_true, List.length_cons, List.length_nil, hd]
  simp only [List.all_cons, List.all_nil, Bool.and_true, Bool.and_eq_true] at hs
  rw [if_neg (by decide)]
  split
  · rename_i h
    simp only [List.any_cons, List.any_nil, Bool.or_false, Bool.or_eq_true] at h
    rcases h with h | h
    · split at h
      · exact absurd hs.1 (by simp [starE])
      · cases h
    · split at h
      · exact absurd hs.2 (by simp [starE])
      · cases h
  · rfl
theorem sw3 (kf : env.scope.kind = .function) (hx : env.scope.names.lookup x = some .local) (hy : env.scope.names.lookup y = some .local) (hz : env.scope.names.lookup z = some .local) (hl : (py.line == px.line) = true) (hl2 : (pz.line == px.line) = true) (hd : [x, y, z].eraseDups.length = 3) (hs : ([a, b, c].all fun e => !starE e) = true)
    (hf : [a, b, c].all (foldedForSure 8) = false) (hc : [a, b, c].all (constantsAlone 8) = false) : swappedStores [.Tuple [.Name x px, .Name y py, .Name z pz] kt pt] (.Tuple [a, b, c] k2 pt2) env = pure (some [x, y, z]) := by
  have hb := kind_blk kf
  have ex : env.kindOf x = some .local := hx
  have ey : env.kindOf y = some .local := hy
  have ez : env.kindOf z = some .local := hz
  unfold swappedStores
  simp only [hb, ex, ey, ez, hl, hl2, hf, hc, Expr.pos, List.filterMap_cons, List.filterMap_nil, List.head?_cons, Option.map_some, Option.getD_some, beq_self_eq_true, Bool.and_self, if_true, List.length_cons, List.length_nil, hd]
  simp only [List.all_cons, List.all_nil, Bool.and_true, Bool.and_eq_true] at hs
  rw [if_neg (by decide)]
  split
  · rename_i h
    simp only [List.any_cons, List.any_nil, Bool.or_false, Bool.or_eq_true] at h
    rcases h with h | h | h
    · split at h
      · exact absurd hs.1 (by simp [starE])
      · cases h
    · split at h
      · exact absurd hs.2.1 (by simp [starE])
      · cases h
    · split at h
      · exact absurd hs.2.2 (by simp [starE])
      · cases h
  · rfl
/-- a pair of constants: stored plainly -/
theorem swF2 (hf : [a, b].all (foldedForSure 8) = true) (hs : ([a, b].all fun e => !starE e) = true) {t1 t2 : Expr} : swappedStores [.Tuple [t1, t2] kt pt] (.Tuple [a, b] k2 pt2) env = pure none := by
  unfold swappedStores
  simp only [hf, if_true]
  repeat' split
  all_goals first | rfl | (simp; done)
end
/-! ### a statement over data -/
structure Out (W : Wd) (B : Option En) (m : Nb) (L : Hl) (H : Hp) (N : DN) (D : Ends) : Prop where
  nx : ∀ ds' L' m' σ' H', N.nx ds' L' → Step m L H m' L' H' → Sit W B m' L' ds' σ' H' → D.nx σ' H'
  bk : ∀ ds' L' m' σ' H', N.bk ds' L' → Step m L H m' L' H' → Sit W B m' L' ds' σ' H' → D.bk σ' H'
  ct : ∀ ds' L' m' σ' H', N.ct ds' L' → Step m L H m' L' H' → Sit W B m' L' ds' σ' H' → D.ct σ' H'
  rt : ∀ d L' v m' H', N.rt d L' → Step m L H m' L' H' → RepL W m' L' H' → RepV W m' L' H' v d → D.rt v H'
theorem Out.step {W : Wd} {B : Option En} {m m1 : Nb} {L L1 : Hl} {H H1 : Hp} {N : DN} {D : Ends} (o : Out W B m L H N D) (st : Step m L H m1 L1 H1) : Out W B m1 L1 H1 N D :=
  ⟨fun ds' L' m' σ' H' n s' S => o.nx ds' L' m' σ' H' n (st.trans s') S, fun ds' L' m' σ' H' n s' S => o.bk ds' L' m' σ' H' n (st.trans s') S, fun ds' L' m' σ' H' n s' S => o.ct ds' L' m' σ' H' n (st.trans s') S, fun d L' v m' H' n s' rl r => o.rt d L' v m' H' n (st.trans s') rl r⟩
abbrev TDn := DN → Ds → Hl → Prop
def lS (W : Wd) (B : Option En) (t : TDn) : TS := fun D σ H => ∃ (m : Nb) (L : Hl) (ds : Ds) (N : DN), Sit W B m L ds σ H ∧ t N ds L ∧ Out W B m L H N D
abbrev DS (X : Cx) (W : Wd) (B : Option En) (st : Stmt) (t : TDn) : Prop := PS X st (lS W B t)
abbrev DSs (X : Cx) (W : Wd) (B : Option En) (st : List Stmt) (t : TDn) : Prop := PSs X st (lS W B t)
section
variable {X : Cx} {W : Wd} {B : Option En} {st : Stmt} {sts : List Stmt} {e tg : Expr} {pos : Pos}
theorem psI {t t' : TS} (h : PS X st t) (c : ∀ D σ H, t' D σ H → t D σ H) : PS X st t' := ⟨fun pins s σ H D I q => h.run pins s σ H D I (c D σ H q)⟩
theorem pssI {t t' : TS} (h : PSs X sts t) (c : ∀ D σ H, t' D σ H → t D σ H) : PSs X sts t' := ⟨fun pins s σ H D I q => h.run pins s σ H D I (c D σ H q)⟩
theorem cvS {t t' : TDn} (h : DS X W B st t) (c : ∀ N ds L, t' N ds L → t N ds L) : DS X W B st t' := psI h fun D σ H ⟨m, L, ds, N, S, q, o⟩ => ⟨m, L, ds, N, S, c N ds L q, o⟩
theorem cvSs {t t' : TDn} (h : DSs X W B sts t) (c : ∀ N ds L, t' N ds L → t N ds L) : DSs X W B sts t' := pssI h fun D σ H ⟨m, L, ds, N, S, q, o⟩ => ⟨m, L, ds, N, S, c N ds L q, o⟩
theorem s_pass : DS X W B (.Pass pos) (fun N ds L => N.nx ds L) := psI ps_pass fun D σ H ⟨m, L, ds, N, S, q, o⟩ => o.nx ds L m σ H q Step.refl S
theorem s_brk : DS X W B (.Break pos) (fun N ds L => N.bk ds L) := psI ps_break fun D σ H ⟨m, L, ds, N, S, q, o⟩ => o.bk ds L m σ H q Step.refl S
theorem s_cont : DS X W B (.Continue pos) (fun N ds L => N.ct ds L) := psI ps_continue fun D σ H ⟨m, L, ds, N, S, q, o⟩ => o.ct ds L m σ H q Step.refl S
theorem s_nil : DSs X W B [] (fun N ds L => N.nx ds L) := pssI pss_nil fun D σ H ⟨m, L, ds, N, S, q, o⟩ => o.nx ds L m σ H q Step.refl S
theorem s_cons {t u : TDn} (h : DS X W B st t) (hr : DSs X W B sts u) : DSs X W B (st :: sts) (fun N ds L => t { N with nx := u N } ds L) := pssI (pss_cons h hr) fun D σ H ⟨m, L, ds, N, S, q, o⟩ =>
  ⟨m, L, ds, _, S, q, ⟨fun ds' L' m' σ' H' n s' S' => ⟨m', L', ds', N, S', n, o.step s'⟩, o.bk, o.ct, o.rt⟩⟩
theorem s_ret {t : TD} (h : DE X W B e t) : DS X W B (.Return (some e) pos) (fun N ds L => t ds L N.rt) := psI (ps_ret h) fun D σ H ⟨m, L, ds, N, S, q, o⟩ => ⟨m, L, ds, _, S, q, fun d L' v m' H' n st rl r => o.rt d L' v m' H' n st rl r⟩
theorem s_ret0 : DS X W B (.Return none pos) (fun N ds L => N.rt .non L) := psI ps_retN fun D σ H ⟨m, L, ds, N, S, q, o⟩ => o.rt .non L .non m H q Step.refl S.rl .non
theorem s_expr {t : TD} (h : DE X W B e t) (hs : swapsWith e none pos.line X.env = pure false) : DS X W B (.Expr e pos) (fun N ds L => t ds L fun _ L1 => N.nx ds L1) := psI (ps_expr h hs) fun D σ H ⟨m, L, ds, N, S, q, o⟩ =>
  ⟨m, L, ds, _, S, q, fun d L' v m' H' n st rl r => o.nx ds L' m' σ H' n st (S.nx st rl)⟩
theorem s_if {a b : List Stmt} {t : TD} {u v : TDn} (hc : DT X W B e t) (ha : DSs X W B a u) (hb : DSs X W B b v) : DS X W B (.If e a b pos) (fun N ds L => t ds L fun x L1 => truthK L1 x fun k => if k = true then u N ds L1 else v N ds L1) :=
  psI (ps_if hc ha hb) fun D σ H ⟨m, L, ds, N, S, q, o⟩ => ⟨m, L, ds, _, S, q, fun d L' m' H' q' st rl => by
    obtain ⟨k, e, q'⟩ := q'
    refine ⟨k, e, ?_⟩
    cases k with
    | true => exact ⟨m', L', ds, N, S.nx st rl, q', o.step st⟩
    | false => exact ⟨m', L', ds, N, S.nx st rl, q', o.step st⟩⟩
/-- a store -/
theorem asg_of {t : TD} {sl : List Nat} {g : D → Ds → (Ds → Prop) → Prop} {D : Ends} {σ : _root_.L2.St} {H : Hp} (h : lS W B (fun N ds L => t ds L fun d L1 => g d ds fun ds1 => N.nx ds1 L1) D σ H) : tAsg (lE W B t) (lG W B sl g) D σ H := by
  obtain ⟨m, L, ds, N, S, q, o⟩ := h
  exact ⟨m, L, ds, _, S, q, fun d L' v m' H' q' st rl r => ⟨m', L', ds, d, _, S.nx st rl, r, q', fun ds' σ' n S' _ => o.nx ds' L' m' σ' H' n st S'⟩⟩
theorem s_asg {t : TD} {sl : List Nat} {g : D → Ds → (Ds → Prop) → Prop} (h : DE X W B e t) (hg : PG X tg (lG W B sl g)) (hs : swapsWithSole [tg] e pos.line X.env = pure false) (hw : swappedStores [tg] e X.env = pure none) (h1 : (assignEach [tg] X.env).map (·.2) = [assign tg X.env]) :
    DS X W B (.Assign [tg] e pos) (fun N ds L => t ds L fun d L1 => g d ds fun ds1 => N.nx ds1 L1) := psI (ps_asg h hg hs hw h1) fun D σ H h => asg_of h
theorem PSet.or {t t' : V → V → V → Hp → (Hp → Prop) → Prop} (h : PSet X t) (h' : PSet X t') : PSet X (fun o i v H Q => t o i v H Q ∨ t' o i v H Q) := by
  intro pins s σ H o i v ov iv u Q I ro ri rv q
  exact q.elim (h pins s σ H o i v ov iv u Q I ro ri rv) (h' pins s σ H o i v ov iv u Q I ro ri rv)
theorem obj_dct {m : Nb} {L : Hl} {H : Hp} {v : V} {n : Nat} {t : Bool} {ks vs : List Nr.D} (rl : RepL W m L H) (r : RepV W m L H v (.obj n)) (e : L[n]? = some (.dct t ks vs)) : ∃ kv vv, v = .ref (m.m n) ∧ DctAt W H (m.m n) t kv ks vv ∧ RepVs W m L H kv ks ∧ RepVs W m L H vv vs := by
  cases r with
  | obj hi =>
    obtain ⟨kv, vv, h1, h2, h3⟩ := rl.ob _ _ e
    exact ⟨kv, vv, rfl, h1, h2, h3⟩
/-- a numbered dict is written -/
theorem set_dctN {m : Nb} {L : Hl} {H : Hp} {n : Nat} {t : Bool} {ks vs ks' vs' : List Nr.D} {kv vv : List V} {o : HO} (rl : RepL W m L H) (e : L[n]? = some (.dct t ks vs)) (hd : DctAt W (upd H (m.m n) o) (m.m n) t kv ks' vv) (r1 : RepVs W m L H kv ks') (r2 : RepVs W m L H vv vs') :
    Step m L H m (L.set n (.dct t ks' vs')) (upd H (m.m n) o) ∧ RepL W m (L.set n (.dct t ks' vs')) (upd H (m.m n) o) := by
  have hi : Alive L n := ⟨_, e, trivial⟩
  have st : Step m L H m (L.set n (.dct t ks' vs')) (upd H (m.m n) o) := Step.write hi
  exact ⟨st, rl.write hi ⟨kv, vv, hd, r1.step st, r2.step st⟩⟩
theorem s_seti {o i : Expr} {p : Pos} {to ti te : TD} (hu : X.A.units + 10 < cLine) (hsl : isSlice i = false) (he : DE X (wd X) B e te) (ho : DE X (wd X) B o to) (hi : DE X (wd X) B i ti) (hs : swapsWithSole [.Subscript o i p] e pos.line X.env = pure false) (hw : swappedStores [.Subscript o i p] e X.env = pure none) :
    DS X (wd X) B (.Assign [.Subscript o i p] e pos) (fun N ds L => te ds L fun v L1 => to ds L1 fun x L2 => ti ds L2 fun k L3 => setK L3 x k v fun L4 => N.nx ds L4) :=
  psI (ps_asg he (pg_sub ho hi (PSet.or set_list (set_dct hu)) (by intro v; cases i <;> first | rfl | cases hsl)) hs hw rfl) fun D σ H ⟨m, L, ds, N, S, q, out⟩ =>
    ⟨m, L, ds, _, S, q, fun v L1 vv m1 H1 q1 st1 rl1 r1 => ⟨m1, L1, ds, _, S.nx st1 rl1, q1, fun x L2 vx m2 H2 q2 st2 rl2 r2 => ⟨m2, L2, ds, _, S.nx (st1.trans st2) rl2, q2, fun k L3 vk m3 H3 q3 st3 rl3 r3 => by
      have st := (st1.trans st2).trans st3
      unfold setK at q3
      split at q3
      · rename_i n
        split at q3
        · rename_i xs e1
          obtain ⟨kk, j, rfl, e2, q4⟩ := q3
          obtain ⟨vs, rfl, h1, h2⟩ := obj_lst rl3 (r2.step st3) e1
          cases r3
          obtain ⟨st4, rl4⟩ := set_lst rl3 e1 (h2.set ((r1.step st2).step st3) j)
          exact .inl ⟨_, vs, kk, j, rfl, rfl, h1, by rw [h2.length]; exact e2, out.nx ds _ m3 σ _ q4 (st.trans st4) (S.nx (st.trans st4) rl4)⟩
        · rename_i t ks vs e1
          obtain ⟨⟨ko, hl⟩, q4⟩ := q3
          obtain ⟨kv, vv', rfl, h1, h2, h3⟩ := obj_dct rl3 (r2.step st3) e1
          refine .inr ⟨_, t, rfl, m3, L3, ks, vs, kv, vv', k, v, h1, h2, h3, r3, (r1.step st2).step st3, ko, hl, fun o' kv2 vv2 _ hd rk rv => ?_⟩
          obtain ⟨st4, rl4⟩ := set_dctN rl3 e1 hd rk rv
          exact out.nx ds _ m3 σ _ q4 (st.trans st4) (S.nx (st.trans st4) rl4)
        · exact q3.elim
      · exact q3.elim⟩⟩⟩
theorem s_aug {i : Nat} {x : Str} {p : Pos} {te : TD} (hN : X.N.Nodup) (hi : X.N[i]? = some x) (hx : L2.Loc X.env.scope x) (hf : X.fn x = true ∨ X.env.scope.names.lookup x = some .local) (he : DE X W B e te) :
    DS X W B (.AugAssign (.Name x p) .Add e pos) (fun N ds L => ∃ d, ds[i]? = some (some d) ∧ te ds L fun y L1 => (match d, y with
    | .int a, .int b => N.nx (ds.set i (some (.int (a + b)))) L1
    | _, _ => False)) := psI (ps_aug hN hi hx he ip_add hf) fun D σ H ⟨m, L, ds, N, S, ⟨d, hd, q⟩, out⟩ => by
  obtain ⟨v, hv, r⟩ := S.rs i d hd
  refine ⟨v, hv, m, L, ds, _, S, q, fun y L1 u m1 H1 q1 st1 rl1 r1 => ?_⟩
  split at q1
  · rename_i a b
    cases r
    cases r1
    exact ⟨a, b, rfl, rfl, out.nx _ L1 m1 _ H1 q1 st1 ((S.nx st1 rl1).set (.int _))⟩
  · exact q1.elim
theorem s_while {t : TD} {sts : List Stmt} {u : TDn} (hp : PassesOwn (model X.prog X.w) X.A X.env X.xe) (hc : DT X W B e t) (hb : DSs X W B sts u) :
    DS X W B (.While e sts [] pos) (fun N ds L => ∃ n, whileR (fun ds L k => t ds L fun x L1 => truthK L1 x fun b => k b L1) (fun M ds L => u M ds L) N n ds L) :=
  psI (ps_while hp hc hb) fun D σ H ⟨m, L, ds, N, S, ⟨n, q⟩, out⟩ => by
    refine ⟨fun n σ' H' => ∃ m' L' ds', Step m L H m' L' H' ∧ Sit W B m' L' ds' σ' H' ∧ whileR (fun ds L k => t ds L fun x L1 => truthK L1 x fun b => k b L1) (fun M ds L => u M ds L) N n ds' L', ⟨n, m, L, ds, Step.refl, S, q⟩, ?_⟩
    rintro n σ' H' ⟨m', L', ds', st, S', q⟩
    cases n with
    | zero => exact q.elim
    | succ n =>
      refine ⟨m', L', ds', _, S', q, fun d L1 m1 H1 q1 st1 rl1 => ?_⟩
      obtain ⟨b, e1, q1⟩ := q1
      refine ⟨b, e1, ?_⟩
      cases b with
      | false => exact out.nx ds' L1 m1 σ' H1 q1 (st.trans st1) (S'.nx st1 rl1)
      | true =>
        refine ⟨fun σ2 H2 => ∃ m2 L2 ds2, Step m L H m2 L2 H2 ∧ Sit W B m2 L2 ds2 σ2 H2 ∧ whileR (fun ds L k => t ds L fun x L1 => truthK L1 x fun b => k b L1) (fun M ds L => u M ds L) N n ds2 L2, fun σ2 H2 ⟨m2, L2, ds2, z⟩ => ⟨n, Nat.lt_succ_self n, m2, L2, ds2, z⟩, m1, L1, ds', _, S'.nx st1 rl1, q1, ⟨?_, ?_, ?_, ?_⟩⟩
        · exact fun ds2 L2 m2 σ2 H2 n2 st2 S2 => ⟨m2, L2, ds2, (st.trans st1).trans st2, S2, n2⟩
        · exact fun ds2 L2 m2 σ2 H2 n2 st2 S2 => out.nx ds2 L2 m2 σ2 H2 n2 ((st.trans st1).trans st2) S2
        · exact fun ds2 L2 m2 σ2 H2 n2 st2 S2 => ⟨m2, L2, ds2, (st.trans st1).trans st2, S2, n2⟩
        · exact fun d L2 v m2 H2 n2 st2 rl2 r2 => out.rt d L2 v m2 H2 n2 ((st.trans st1).trans st2) rl2 r2
theorem s_for {ti : TDi} {it : Expr} {sl : List Nat} {g : D → Ds → (Ds → Prop) → Prop} {sts : List Stmt} {u : TDn} (hp : PassesOwn (model X.prog X.w) X.A X.env X.xe) (hc : X.calm = true) (hi : DI X W B tg it ti) (hg : PG X tg (lG W B sl g)) (hb : DSs X W B sts u) (hs : ∀ x, foldedSetIterable it X.env x = pure x) :
    DS X W B (.For tg it sts [] pos) (fun N ds L => ti ds L fun s L1 => forR s (fun x M ds L => g x ds fun ds1 => u M ds1 L) N s.items ds L1) :=
  psI (ps_for hp hc hi hg hb hs) fun D σ H ⟨m, L, ds, N, S, q, out⟩ => by
    refine ⟨m, L, ds, _, S, q, fun s L1 m1 H1 J q1 st1 rl1 wk => ?_⟩
    refine ⟨fun i n σ' H' => ∃ m' L' ds', n = s.items.length - i ∧ i ≤ s.items.length ∧ Step m1 L1 H1 m' L' H' ∧ Sit W B m' L' ds' σ' H' ∧ forR s (fun x M ds L => g x ds fun ds1 => u M ds1 L) N (s.items.drop i) ds' L', ⟨_, m1, L1, ds, rfl, Nat.zero_le _, Step.refl, S.nx st1 rl1, by rw [List.drop_zero]; exact q1⟩, ?_⟩
    rintro i n σ' H' ⟨m', L', ds', rfl, hi, st, S', q⟩
    by_cases hlt : i < s.items.length
    · have e : s.items.drop i = s.items[i] :: s.items.drop (i + 1) := List.drop_eq_getElem_cons hlt
      rw [e] at q
      have hx : s.items[i]? = some s.items[i] := by simp [hlt]
      obtain ⟨ok, q⟩ := q
      obtain ⟨g1, g2⟩ := wk.go i _ m' L' H' hx st.wk S'.rl ok
      refine .inr ⟨g1, fun σ2 H2 => ∃ m2 L2 ds2, Step m1 L1 H1 m2 L2 H2 ∧ Sit W B m2 L2 ds2 σ2 H2 ∧ forR s (fun x M ds L => g x ds fun ds1 => u M ds1 L) N (s.items.drop (i + 1)) ds2 L2, fun σ2 H2 ⟨m2, L2, ds2, z1, z2, z3⟩ => ⟨_, ?_, m2, L2, ds2, rfl, hlt, z1, z2, z3⟩, fun x H2 y => ?_⟩
      · omega
      obtain ⟨nx, r⟩ := g2 x H2 y
      refine ⟨m', L', ds', _, _, S'.nx nx.st nx.rl, r, q, fun ds3 σ3 q3 S3 _ => ⟨m', L', ds3, _, S3, q3, ⟨?_, ?_, ?_, ?_⟩⟩⟩
      · exact fun ds2 L2 m2 σ2 H2 n2 st2 S2 => ⟨m2, L2, ds2, (st.trans nx.st).trans st2, S2, n2⟩
      · exact fun ds2 L2 m2 σ2 H2 n2 st2 S2 => out.nx ds2 L2 m2 σ2 H2 n2 (((st1.trans st).trans nx.st).trans st2) S2
      · exact fun ds2 L2 m2 σ2 H2 n2 st2 S2 => ⟨m2, L2, ds2, (st.trans nx.st).trans st2, S2, n2⟩
      · exact fun d L2 v m2 H2 n2 st2 rl2 r2 => out.rt d L2 v m2 H2 n2 (((st1.trans st).trans nx.st).trans st2) rl2 r2
    · have e : i = s.items.length := by omega
      subst e
      rw [List.drop_length] at q
      exact .inl ⟨wk.stop m' L' H' st.wk S'.rl q.1, out.nx ds' L' m' σ' H' q.2 (st1.trans st) S'⟩
end
end Nr

/-! try: .. except C as e: kept = e; the exception's object stays known behind the suite. -/
namespace Nr
open PySem PySem.Spec PyProof.Rows L2
/-- what is known of a kept exception -/
def exHO (cls : Value) (a : Addr) : HO := .ext fun g => ∃ (o : Obj) (fs : Array Value), g.get? a = some o ∧ o.cls = cls ∧ o.dict = none ∧ o.data = .fields fs
/-- an object that is there, new since the entry, is tracked from now on -/
theorem adopt {X : Cx} {pins : List (Addr × Obj)} {σ : _root_.L2.St} {H : Hp} {s : Shared} {a : Addr} {oe : Obj} {u : HO} (I : Inv X pins σ H s) (h0 : X.s_0.heap.get? a = none) (he : s.heap.get? a = some oe) (nH : H a = none) (nL : a ≠ X.env.locals) (nc : ∀ v, oe.data ≠ .cell v)
    (np : ∀ p ∈ X.pn ++ pins, p.1 ≠ a) (new : ObjOk X.prog X.w (upd H a u) s.heap a u) : Inv X pins σ (upd H a u) s := by
  have old : ∀ b w, H b = some w → upd H a u b = some w := fun b w q => by rw [upd_ne (ne_of_none q nH)]; exact q
  have noC : ∀ x c, X.env.cells.lookup x = some c → c ≠ a := fun x c q z => by
    obtain ⟨v, o, ho, hd⟩ := I.cell x c q
    rw [z, he] at ho
    cases ho
    exact nc v hd
  refine ⟨I.ok, I.os, I.bare, ⟨I.base.keep, I.base.slot, fun b o q n hx => ?_, I.base.there, fun b xs q => old _ _ (I.base.tups b xs q), fun b o w q => old _ _ (I.base.frzs b o w q), fun b ps q => ?_⟩, I.loc, I.cell, ?_, fun x c q => ?_, fun p hp => ?_, fun b w q => ?_, I.len⟩
  · have ne : b ≠ a := fun z => by rw [z, h0] at q; cases q
    rw [upd_ne ne]
    exact I.base.free b o q n hx
  · obtain ⟨more, q2⟩ := I.base.tbls b ps q
    exact ⟨more, old _ _ q2⟩
  · rw [upd_ne (Ne.symm nL)]
    exact I.free
  · rw [upd_ne (noC x c q)]
    exact I.freeC x c q
  · obtain ⟨q1, q2, q3⟩ := I.pin p hp
    refine ⟨q1, ?_, q3⟩
    rw [upd_ne (np p hp)]
    exact q2
  · by_cases hb : b = a
    · subst hb
      rw [upd_same] at q
      cases q
      exact new
    · rw [upd_ne hb] at q
      exact (I.hok b w q).stay (fun c v _ r => r) (fun c r => old _ _ r) fun c xs r => old _ _ r
/-- what the clause wants of an exception of the body -/
def wKeep (K : PySem.W.Frag) (C : Value) (i j : Nat) (Wo : WX) (D : Ends) : WX := fun cls dd σ H =>
  ∃ k, PySem.W.exmOne K cls C = some k ∧ (k = true → dd = none ∧ ∀ a, H a = none → D.nx ((σ.set j (some (.ref a))).set i none) (upd H a (exHO cls a))) ∧ (k = false → Wo cls dd σ H)
section
variable {X : Cx} {x n y : Str} {C : Value} {i j : Nat} {body : List Stmt} {np pa pb pc pd ps : Pos} {tb : WX → TS} {Wo : WX}
theorem ps_try_keep (hstk : X.stack = X.env :: X.outer) (hfrm : X.env.frame = some X.env.locals) (hex : X.ex = []) (hnd : X.N.Nodup) (hi : X.N[i]? = some n) (hij : i < X.N.length) (hln : X.env.kindOf n = some .local) (hvn : Vis X.env.scope n) (hv1 : (n == ("__debug__" : Str)) = false) (hv2 : (n == ("__classdict__" : Str)) = false) (hj : X.N[j]? = some y) (hly : X.env.scope.names.lookup y = some .local) (hcl : Names X x C) (tk : Takes X Wo)
    (hsw : swapsWith (.Name n pa) (some (.Name y pb)) pc.line X.env = pure false)
    (hb : ∀ (W : WX) (pn : List (Addr × Obj)) (xe : Value → Shared → Prop), Takes (X.tr pn xe) W → PassesOwn (model X.prog X.w) X.A X.env xe → PSs (X.tr pn xe) body (tb W)) :
    PS X (.Try body [.ExceptHandler (some (.Name x np)) (some n) [.Assign [.Name y pb] (.Name n pa) pc] pd] [] [] ps) (fun D σ H => tb (wKeep X.K C i j Wo D) D σ H) := by
  refine ⟨fun pins s σ H D I q0 => ?_⟩
  have ok0 := I.ok
  have fr0 : X.A.frames = some (X.env :: X.outer) := ok0.frames.trans (congrArg some hstk)
  have lc0 : L2.Loc X.env.scope n := .inl hln
  refine wpAny_Try_except ?_
  have caught : ∀ (xe' : Value → Shared → Prop) (v : Value) (s₁ : Shared), XE (X.tr (X.pn ++ pins) xe') (wKeep X.K C i j Wo D) v s₁ → wpAny (model X.prog X.w) X.A (noteFrame v X.env) (fun _ s₂ => wpAny (model X.prog X.w) X.A (setFlight v none) (fun _ s₃ =>
      wpAny (model X.prog X.w) X.A (handleBy v X.env [.ExceptHandler (some (.Name x np)) (some n) [.Assign [.Name y pb] (.Name n pa) pc] pd]) (SP X pins D) X.xe s₃) X.xe s₂) X.xe s₁ := by
    intro xe' v s₁ xx
    obtain ⟨a, B, s0, pl, σ1, H1, cls, dd, rfl, Jt, nb, up, sky, na, os, ag, k, hk, kY, kN⟩ := xx
    have J : Inv X pins σ1 H1 s0 := Jt.ofTry ok0
    have sky1 : Sky B (X.env :: X.outer) a (Zc cls dd) X.env.locals s₁.heap := hstk ▸ sky
    have Ba : B.get? a = none := by rcases sky1 with z | z | z <;> exact z.2.1
    refine Sky.land Zc.steady fr0 hfrm sky1 fun g1 f1 u1 => ?_
    have Jg : Inv X pins σ1 H1 { s₁ with heap := g1 } := J.landed nb f1.1 (up.trans u1) os ag
    obtain ⟨o1, vs1, e1, z1, d1⟩ := f1.there
    have nstk : a ∉ frs (X.env :: X.outer) := fun hm => by
      obtain ⟨_, o', e', hnf⟩ := f1.2.2.1.mem hm
      rw [e1] at e'
      cases e'
      exact hnf _ d1
    have nL : a ≠ X.env.locals := fun z => nstk (List.mem_filterMap.mpr ⟨X.env, List.mem_cons_self, by rw [hfrm, z]⟩)
    have nF : a ∉ X.fs := fun hm => by
      obtain ⟨e, he, q⟩ := List.mem_filterMap.mp hm
      exact nstk (List.mem_filterMap.mpr ⟨e, List.mem_cons_of_mem _ he, q⟩)
    have nS : a ∉ frs X.stack := by rw [hstk]; exact nstk
    have h0 : X.s_0.heap.get? a = none := by
      cases q : X.s_0.heap.get? a with
      | none => rfl
      | some o =>
        obtain ⟨o', q'⟩ := J.base.there a o q (by rw [hex]; exact fun z => nomatch z)
        have := nb a o' q' nS
        rw [Ba] at this
        cases this
    have np0 : ∀ p ∈ X.pn ++ pins, p.1 ≠ a := fun p hp z => by
      obtain ⟨q1, _⟩ := J.pin p hp
      rw [z] at q1
      have := nb a _ q1 nS
      rw [Ba] at this
      cases this
    have Sg := Jg.suite e1 d1 na nL nF
    refine wpAny_handleBy_cons (codeAny_handlers_test ?_) (by intro q; cases q)
    have lk : PySem.W.Looks (model X.prog X.w) g1 (typeOf (.ref a)) cls := fun A Q E s kk q => wpAny_typeOf_ref (kk _ _ e1) (by rw [z1.1]; exact q)
    have lm := PySem.W.exm_one (M := model X.prog X.w) Jg.kIn lk hk
    have tst : ∀ {Q : Value → Shared → Prop} {E : Value → Shared → Prop}, Q C { s₁ with heap := g1 } → wpAny (model X.prog X.w) (X.A.mark (some (.ref a))) (eval (.Name x np) X.env) Q E { s₁ with heap := g1 } := fun {Q E} q => by
      obtain ⟨hg, hdb, hm | ⟨hm, hv, hnn⟩⟩ := hcl
      · exact ld_glob (X := X.suite a ((a, o1) :: (X.pn ++ pins))) Sg hg hm q hdb
      · exact ld_blt (X := X.suite a ((a, o1) :: (X.pn ++ pins))) Sg hg hm hv q hnn hdb
    refine tst (lm.here ?_)
    cases k with
    | true =>
      obtain ⟨hdd, kY2⟩ := kY rfl
      subst hdd
      refine codeAny_handlers_suite_as ?_
      refine HandSPX.lands_againZ f1 fun g2 f2 u2 => ?_
      have Jh : Inv X pins σ1 H1 { s₁ with heap := g2 } := J.landed nb f2.1 ((up.trans u1).trans u2) os ag
      obtain ⟨o2, vs2, e2, z2, d2⟩ := f2.there
      have Sh := Jh.suite e2 d2 na nL nF
      refine store_ok (X := X.suite a ((a, o2) :: (X.pn ++ pins))) (v := .ref a) Sh hnd hi lc0 rfl (fun s5 S5 => ?_) (.inr hln)
      have asg : PSs (X.suite a ((a, o2) :: (X.pn ++ pins))) [.Assign [.Name y pb] (.Name n pa) pc] (tSeq (tAsg (tVar i) (gName j)) tNext) :=
        pss_cons (ps_set (i := j) (pos' := pb) hnd hj (.inl hly) (pe_var hi hvn (hd := hv1) (hcd := hv2)) hsw (.inr hly)) pss_nil
      have hil : i < σ1.length := by rw [J.len]; exact hij
      refine wpAny_mono (asg.run [] s5 _ H1 { nx := fun σ' H' => σ' = (σ1.set i (some (.ref a))).set j (some (.ref a)) ∧ H' = H1, rt := fun _ _ => False } S5 ⟨.ref a, by rw [List.getElem?_set_self hil], rfl, rfl⟩) (fun fl s6 hsp => ?_) (fun _ _ z => False.elim z)
      cases fl with
      | next =>
        obtain ⟨σ6, H6, S6, rfl, rfl⟩ := hsp
        obtain ⟨p1, p2, p3, p4, p5⟩ := S6.pin (a, o2) (List.mem_append_left _ List.mem_cons_self)
        have J6 : Inv X pins _ H6 s6 := S6.unsuite ok0
        have J6' : Inv X ((a, o2) :: pins) _ H6 s6 := J6.pins_of fun p hp => by
          rcases List.mem_cons.mp hp with rfl | hp
          · exact ⟨p1, p2, p3, p4, p5⟩
          · exact J6.pin p (List.mem_append_right _ hp)
        refine gone_ok J6' hnd hi hln fun s7 J7 => ?_
        obtain ⟨r1, r2, r3, r4, r5⟩ := J7.pin (a, o2) (List.mem_append_right _ List.mem_cons_self)
        have J8 : Inv X pins _ H6 s7 := J7.pins_of fun p hp => J7.pin p (List.mem_append_right _ (List.mem_cons_of_mem _ hp))
        refine ⟨_, _, adopt (u := exHO cls a) J8 h0 r1 r2 r3 r5 np0 ?_, ?_⟩
        · exact ⟨⟨o2, vs2, r1, z2.1, z2.2, d2⟩, ⟨o2, r1⟩, fun _ _ ⟨o, v, q, r⟩ kk => ⟨o, v, kk o q, r⟩⟩
        · have := kY2 a na
          have es : ((σ1.set i (some (.ref a))).set j (some (.ref a))).set i none = (σ1.set j (some (.ref a))).set i none := by
            by_cases hh : i = j
            · subst hh; simp
            · rw [List.set_comm _ _ hh, List.set_set]
          rw [es]
          exact this
      | brk => exact (hsp.choose_spec.choose_spec.2 : False).elim
      | cont => exact (hsp.choose_spec.choose_spec.2 : False).elim
      | ret u => exact (hsp.choose_spec.choose_spec.choose_spec.2.2 : False).elim
    | false =>
      show wpAny _ X.A (handleBy (.ref a) X.env []) _ _ _
      refine wpAny_handleBy_nil ?_
      obtain ⟨_, _, _, ob, vv, T, oT, tt, q1, q2, q3, q4, q5⟩ := id f1
      unfold PySem.passOn
      refine wpAny_bind (wpAny_field q1 q3 q4 ?_)
      rw [if_neg (show ¬ ((Value.ref T == Value.none) = true) from by simp)]
      have out : wpAny (model X.prog X.w) X.A (setFlight (.ref a) X.env.frame) (fun _ s4 => wpAny (model X.prog X.w) X.A (throw (.ref a) : Sem Flow) (SP X pins D) X.xe s4) X.xe { s₁ with heap := g1 } := by
        rw [hfrm]
        refine HandSPX.setFlight_upZ f1 fun g2 hh2 u2 => wpAny_throw (tk _ _ ?_)
        exact ⟨a, B, s0, pins, σ1, H1, cls, dd, rfl, J, nb, (up.trans u1).trans u2, .inr (.inr (by rw [hstk]; exact hh2)), na, os, ag, kN rfl⟩
      first
        | exact wpAny_bind (wpAny_pure (wpAny_bind out))
        | exact wpAny_bind out
  refine wpAny_mono ((hb (wKeep X.K C i j Wo D) (X.pn ++ pins) _ (fun v s₁ xx => caught _ v s₁ xx) PassesOwn.looking).run [] s σ H D (I.toTry _) q0) (fun fl s1 hsp => ?_) (fun e s1 he => he)
  cases fl with
  | next =>
    obtain ⟨σ', H', J', q⟩ := hsp
    exact wpAny_execs_nil ⟨σ', H', J'.ofTry ok0, q⟩
  | brk =>
    obtain ⟨σ', H', J', q⟩ := hsp
    exact ⟨σ', H', J'.ofTry ok0, q⟩
  | cont =>
    obtain ⟨σ', H', J', q⟩ := hsp
    exact ⟨σ', H', J'.ofTry ok0, q⟩
  | ret u =>
    obtain ⟨v, σ', H', J', r, q⟩ := hsp
    exact ⟨v, σ', H', J'.ofTry ok0, r, q⟩
end
end Nr

/-! Statements: the check, the recursion. -/
namespace Nr
open PySem PySem.Spec PyProof.Rows L2
def swT (Γ : Gm) (y : Str) (py : Pos) (scope : Scope) (epos : Pos) : Bool := decide (Γ.sc.names.lookup y = some .local) && (py.line == epos.line) && !(scope.names.any fun (n, k) => n == y && (k == .local || k == .cell))
def isComp : Expr → Bool
  | .ListComp _ _ _ _ => true
  | .SetComp _ _ _ _ => true
  | .DictComp _ _ _ _ _ => true
  | _ => false
def isCallE : Expr → Bool
  | .Call _ _ _ _ => true
  | _ => false
def isTupE : Expr → Bool
  | .Tuple _ _ _ => true
  | _ => false
def chkAsg (Γ : Gm) (g : IG) (e : IE) (tg e' : Expr) : Bool :=
  chkG Γ g tg && chkE Γ e e' && (match tg with
    | .Name y py => (match e' with
      | .ListComp _ _ scope epos => if swT Γ y py scope epos = true then (match g with
          | .n i => decide (Γ.N[i]? = some y)
          | _ => false) else true
      | .DictComp _ _ _ scope epos => if swT Γ y py scope epos = true then (match g with
          | .n i => decide (Γ.N[i]? = some y)
          | _ => false) else true
      | e' => !isComp e')
    | .Tuple ts _ _ => (match e' with
      | .Tuple vs _ _ => decide (ts.length = 2) && decide (vs.length = 2) && vs.all (foldedForSure 8) && vs.all (fun e => !starE e)
      | _ => true)
    | _ => false)
def chkPar (Γ : Gm) : List Nat → IEs → Expr → Expr → Bool
  | [i, j], es, .Tuple [.Name x px, .Name y py] _ _, .Tuple [a, b] _ _ => chkEs Γ es [a, b] && (decide (Γ.N[i]? = some x) && decide (Γ.N[j]? = some y) && decide (Γ.sc.names.lookup x = some .local) && decide (Γ.sc.names.lookup y = some .local)) && ((py.line == px.line) && !(x == y) && [a, b].all (fun e => !starE e) && !([a, b].all (foldedForSure 8)) && !([a, b].all (constantsAlone 8)))
  | [i, j, l], es, .Tuple [.Name x px, .Name y py, .Name z pz] _ _, .Tuple [a, b, c] _ _ => chkEs Γ es [a, b, c] && (decide (Γ.N[i]? = some x) && decide (Γ.N[j]? = some y) && decide (Γ.N[l]? = some z) && decide (Γ.sc.names.lookup x = some .local) && decide (Γ.sc.names.lookup y = some .local) && decide (Γ.sc.names.lookup z = some .local)) &&
      ((py.line == px.line) && (pz.line == px.line) && decide ([x, y, z].eraseDups.length = 3) && decide (i ≠ j) && decide (i ≠ l) && decide (j ≠ l) && [a, b, c].all (fun e => !starE e) && !([a, b, c].all (foldedForSure 8)) && !([a, b, c].all (constantsAlone 8)))
  | _, _, _, _ => false
mutual
def chkS (Γ : Gm) : IS → Stmt → Bool
  | .pass, st => (match st with
    | .Pass _ => true
    | _ => false)
  | .expr e, st => (match st with
    | .Expr e' _ => isCallE e' && chkE Γ e e'
    | _ => false)
  | .asg g e, st => (match st with
    | .Assign [tg] e' _ => chkAsg Γ g e tg e'
    | _ => false)
  | .par is es, st => (match st with
    | .Assign [tg] e' _ => chkPar Γ is es tg e'
    | _ => false)
  | .seti o i e, st => (match st with
    | .Assign [.Subscript o' i' _] e' _ => chkE Γ o o' && chkE Γ i i' && chkE Γ e e' && !isSlice i'
    | _ => false)
  | .aug i e, st => (match st with
    | .AugAssign (.Name x _) .Add e' _ => Γ.loc i x && chkE Γ e e'
    | _ => false)
  | .ret e, st => (match st with
    | .Return (some e') _ => chkE Γ e e'
    | _ => false)
  | .ret0, st => (match st with
    | .Return none _ => true
    | _ => false)
  | .ite c a b, st => (match st with
    | .If c' a' b' _ => chkE Γ c c' && chkSs Γ a a' && chkSs Γ b b'
    | _ => false)
  | .for_ g it b, st => (match st with
    | .For tg it' b' [] _ => chkG Γ g tg && (chkI Γ it it' && tgOk it tg) && chkSs Γ b b'
    | _ => false)
  | .while_ c b, st => (match st with
    | .While c' b' [] _ => chkE Γ c c' && chkSs Γ b b'
    | _ => false)
  | .brk, st => (match st with
    | .Break _ => true
    | _ => false)
  | .cont, st => (match st with
    | .Continue _ => true
    | _ => false)
  | .raise c, st => (match st with
    | .Raise (some (.Call (.Name x _) [.Constant (.str _) _ _] [] _)) none _ => Γ.gl x && decide (c = x) && Γ.exs.contains c
    | _ => false)
  | .try_ b c xs i j, st => (match st with
    | .Try b' [.ExceptHandler (some (.Name x _)) (some n) [.Assign [.Name y _] (.Name n' _) _] _] [] [] _ => chkSs Γ b b' && (Γ.gl x && decide (c = x) && decide (xs = Γ.exi) && Γ.exi.contains c) && (decide (Γ.N[i]? = some n) && decide (Γ.sc.names.lookup n = some .local) && decide (n = n') && okName n) && (decide (Γ.N[j]? = some y) && decide (Γ.sc.names.lookup y = some .local))
    | _ => false)
  | .tryr b c xs, st => (match st with
    | .Try b' [.ExceptHandler (some (.Name x _)) none [.Return (some (.Constant .none _ _)) _] _] [] [] _ => chkSs Γ b b' && (Γ.gl x && decide (c = x) && decide (xs = Γ.exi) && Γ.exi.contains c)
    | _ => false)
def chkSs (Γ : Gm) : ISs → List Stmt → Bool
  | .nil, sts => sts.isEmpty
  | .cons s r, sts => (match sts with
    | st :: sts => chkS Γ s st && chkSs Γ r sts
    | [] => false)
end
/-- where statements stand -/
structure GoodS (Φ : Phi) (B : Option En) (E : XS) (k : Nat) (Γ : Gm) (X : Cx) : Prop where
  g : Good Φ B E k Γ X
  pass : PassesOwn (model X.prog X.w) X.A X.env X.xe
  kind : X.env.scope.kind = .function
  exs : ∀ x ∈ Γ.exs, ∃ C, X.mg x = some (.ref C) ∧ PySem.W.excIn X.K C He.veBase "ValueError.__new__" = true ∧ PySem.W.keepIn X.K (.ref C) = true ∧ Raises X (.ref C)
  stk : X.stack = X.env :: X.outer
  frm : X.env.frame = some X.env.locals
  ex : X.ex = []
section
variable {Φ : Phi} {B : Option En} {E : XS} {k : Nat} {Γ : Gm} {X : Cx} {W : Wd} {e tg elt : Expr} {es : List Expr} {pos epos : Pos} {scope : Scope}
theorem sw_no {l : Nat} (h : isComp e = false) : swapsWith e (some tg) l X.env = pure false := by
  cases e <;> first | rfl | cases h
theorem sw_noN {l : Nat} (h : isComp e = false) : swapsWith e none l X.env = pure false := by
  cases e <;> first | rfl | cases h
theorem sw_false {gs : List Comprehension} {py : Pos} {y : Str} {l : Nat} (hk : X.env.scope.kind = .function) (hs : X.env.scope = Γ.sc) (h : swT Γ y py scope epos = false) : swapsWith (.ListComp elt gs scope epos) (some (.Name y py)) l X.env = pure false := by
  have hb := kind_blk hk
  unfold swapsWith
  unfold swT at h
  rw [← hs] at h
  have e : (X.env.kindOf y == some .local) = decide (X.env.scope.names.lookup y = some .local) := by
    show (List.lookup y X.env.scope.names == some .local) = _
    cases q : List.lookup y X.env.scope.names with
    | none => rfl
    | some z => cases z <;> simp
  simp only [hb, e, Expr.pos, beq_self_eq_true, Bool.true_and]
  exact congrArg pure h
theorem sw_falseD {kx vx : Expr} {gs : List Comprehension} {py : Pos} {y : Str} {l : Nat} (hk : X.env.scope.kind = .function) (hs : X.env.scope = Γ.sc) (h : swT Γ y py scope epos = false) : swapsWith (.DictComp kx vx gs scope epos) (some (.Name y py)) l X.env = pure false := by
  have hb := kind_blk hk
  unfold swapsWith
  unfold swT at h
  rw [← hs] at h
  have e : (X.env.kindOf y == some .local) = decide (X.env.scope.names.lookup y = some .local) := by
    show (List.lookup y X.env.scope.names == some .local) = _
    cases q : List.lookup y X.env.scope.names with
    | none => rfl
    | some z => cases z <;> simp
  simp only [hb, e, Expr.pos, beq_self_eq_true, Bool.true_and]
  exact congrArg pure h
theorem sw_trueD {kx vx : Expr} {gs : List Comprehension} {pos py : Pos} {y : Str} {l : Nat} {env : Env} (hk : env.scope.kind = .function) (hy : env.scope.names.lookup y = some .local) (hl : (py.line == pos.line) = true)
    (ha : (scope.names.any fun (n, k) => n == y && (k == .local || k == .cell)) = false) : swapsWith (.DictComp kx vx gs scope pos) (some (.Name y py)) l env = pure true := by
  have ky : env.kindOf y = some .local := hy
  unfold swapsWith
  simp only [show env.blockKind = .function by unfold Env.blockKind; rw [hk]; rfl, ky, ha, Expr.pos, hl]
  rfl
theorem sw_tup {e : Expr} {ts : List Expr} {kt : Nat} {pt : Pos} {l : Nat} : swapsWith e (some (.Tuple ts kt pt)) l X.env = pure false := by
  cases e <;> rfl
theorem sw_sub {o i e : Expr} {p : Pos} {l : Nat} : swapsWithSole [.Subscript o i p] e l X.env = pure false := by
  show swapsWith e (some (.Subscript o i p)) l X.env = pure false
  cases e <;> rfl
theorem sw_sub2 {o i e : Expr} {p : Pos} : swappedStores [.Subscript o i p] e X.env = pure none := by
  cases e <;> rfl
/-- a new list, as a value -/
theorem frz_imp {t : TDl} {σ : _root_.L2.St} {H : Hp} {Q : VK} (h : lE W B (fun ds L Q => t ds L fun xs L1 => Q (.lst xs) L1) σ H Q) : lF W B t σ H Q := by
  obtain ⟨m, L, ds, Qd, S, q, c⟩ := h
  exact ⟨m, L, ds, _, S, q, fun xs L' m' H' p q' n => c _ L' _ _ H' q' n.frz.1 n.frz.2.1 n.frz.2.2⟩
theorem newl_imp {t : TDl} {σ : _root_.L2.St} {H : Hp} {Q : VK} (h : lE W B (fun ds L Q => t ds L fun xs L1 => Q (.obj L1.length) (L1 ++ [.lst xs])) σ H Q) : lF W B t σ H Q := by
  obtain ⟨m, L, ds, Qd, S, q, c⟩ := h
  exact ⟨m, L, ds, _, S, q, fun xs L' m' H' p q' n => c _ _ _ _ H' q' n.num.1 n.num.2.1 n.num.2.2⟩
theorem imp_of {c : IE} {σ : _root_.L2.St} {H : Hp} {Q : VK} {gs : List Comprehension} (hc : chkE Γ c (.ListComp elt gs scope epos) = true) : ∃ f, chkF Γ f (.ListComp elt gs scope epos) = true ∧ ∀ {σ : _root_.L2.St} {H : Hp} {Q : VK}, lE (wd X) B (tE Φ E c) σ H Q → lF (wd X) B (tF Φ E f) σ H Q := by
  cases c <;> first | (simp [chkE] at hc; done) | skip
  · rename_i f
    refine ⟨f, by simpa only [chkE] using hc, fun {σ H Q} h => frz_imp ?_⟩
    obtain ⟨m, L, ds, Qd, S, q, c⟩ := h
    exact ⟨m, L, ds, Qd, S, by unfold tE semE at q; exact q, c⟩
  · rename_i f
    refine ⟨f, by simpa only [chkE] using hc, fun {σ H Q} h => newl_imp ?_⟩
    obtain ⟨m, L, ds, Qd, S, q, c⟩ := h
    exact ⟨m, L, ds, Qd, S, by unfold tE semE at q; exact q, c⟩
  · rename_i f
    cases f <;> simp [chkE, chkD] at hc
  · rename_i f
    cases f <;> simp [chkE, chkD] at hc
/-- name = [..] on one line -/
theorem setLc {f : IF} {i : Nat} {y : Str} {py spos : Pos} {gs : List Comprehension} (G : GoodS Φ B E k Γ X) (hy : Γ.N[i]? = some y) (hs : swT Γ y py scope epos = true) (h : chkF Γ f (.ListComp elt gs scope epos) = true) :
    PS X (.Assign [.Name y py] (.ListComp elt gs scope epos) spos) (tAsg (lF (wd X) B (tF Φ E f)) (gName i)) := by
  have G' := G.g
  unfold swT at hs
  simp only [Bool.and_eq_true] at hs
  obtain ⟨⟨s1, s2⟩, s3⟩ := hs
  have s3 := nb s3
  have hl : X.env.scope.names.lookup y = some .local := by rw [G'.sc]; exact of_decide_eq_true s1
  have hyN : X.N[i]? = some y := by rw [G'.N]; exact hy
  have hsw : ∀ {gs : List Comprehension}, swapsWith (.ListComp elt gs scope epos) (some (.Name y py)) spos.line X.env = pure true := fun {gs} => sw_true G.kind hl s2 s3
  cases f <;> first | (simp [chkF] at h; done) | skip
  · rename_i own i' g it ifs
    unfold chkF at h
    split at h <;> first | (cases h; done) | skip
    rename_i e' tg it' ifs' scope' pos' heq
    cases heq
    obtain ⟨h1, h5⟩ := b2 h
    obtain ⟨h1, h4⟩ := b2 h1
    obtain ⟨h1, h3⟩ := b2 h1
    obtain ⟨h1, h2⟩ := b2 h1
    obtain ⟨h3, h6⟩ := b2 h3
    obtain ⟨h2, h7⟩ := b2 h2
    have ok : BlkOk X.N X.env.scope scope (own.map fun i => (Γ.N.getD i Str.empty, i)) := by rw [G'.N, G'.sc]; exact blkOk_by h1
    refine psI (ps_setLc (g := lG (wd X) none g.slots (semG g)) (tt := lIf (wd X) none (tIff Φ NoX ifs)) (te := lE (wd X) none (tE Φ NoX i')) G'.calm G'.ndX hyN hl hsw (sndI G' it _ _ h2 h7) ok (fun s H C cl fp => g_ok (G'.blk s H C cl fp) g tg h3) (fun s H C cl fp => sndIf (G'.blk s H C cl fp) ifs _ h4) (fun s H C cl fp => (sndE (G'.blk s H C cl fp) i' _ h5).1) (foldI h2)) fun D σ H q => ?_
    rw [own_map]
    refine lc_of (fun i hi => by simpa using List.all_eq_true.mp h6 i hi) ?_
    obtain ⟨m, L, ds, Qd, S, q, c⟩ := q
    exact ⟨m, L, ds, Qd, S, by unfold tF semF at q; exact q, c⟩
  · rename_i own own1 i' g it ifs g1 it1 ifs1
    unfold chkF at h
    split at h <;> first | (cases h; done) | skip
    rename_i e' tg it' ifs' tg1 it1' ifs1' scope' pos' heq
    cases heq
    simp only [Bool.and_eq_true] at h
    obtain ⟨⟨⟨⟨⟨⟨⟨⟨h1, h2⟩, h3, h3'⟩, h4, h4'⟩, h5⟩, h6, h6'⟩, h7, h7'⟩, h8⟩, h9⟩ := h
    have ok : BlkOk X.N X.env.scope scope (own.map fun i => (Γ.N.getD i Str.empty, i)) := by rw [G'.N, G'.sc]; exact blkOk_by h1
    refine psI (ps_setLc2 (vs1 := own1) (g := lG (wd X) none g.slots (semG g)) (tt := lIf (wd X) none (tIff Φ NoX ifs)) (te := lE (wd X) none (tE Φ NoX i')) (wi1 := lI (wd X) none (tI Φ NoX it1)) (g1 := lG (wd X) none g1.slots (semG g1)) (tt1 := lIf (wd X) none (tIff Φ NoX ifs1)) G'.calm G'.ndX hyN hl hsw (sndI G' it _ _ h3 h3') ok (fun i hi => by rw [own_map]; simpa using List.all_eq_true.mp h2 i hi)
      (fun s H C cl fp => g_ok (G'.blk s H C cl fp) g tg h4) (fun s H C cl fp => sndIf (G'.blk s H C cl fp) ifs _ h5) (fun s H C cl fp => sndI (G'.blk s H C cl fp) it1 _ _ h6 h6') (fun s H C cl fp => g_ok (G'.blk s H C cl fp) g1 tg1 h7) (fun s H C cl fp => sndIf (G'.blk s H C cl fp) ifs1 _ h8) (fun s H C cl fp => (sndE (G'.blk s H C cl fp) i' _ h9).1) (foldI h3) (fun env x => foldI h6 (env := env) x)) fun D σ H q => ?_
    rw [own_map]
    refine lc2_of (fun i hi => by simpa using List.all_eq_true.mp h4' i hi) (fun i hi => by simpa using List.all_eq_true.mp h7' i hi) ?_
    obtain ⟨m, L, ds, Qd, S, q, c⟩ := q
    exact ⟨m, L, ds, Qd, S, by unfold tF semF at q; exact q, c⟩
theorem impD_of {c : IE} {kx vx : Expr} {gs : List Comprehension} (hc : chkE Γ c (.DictComp kx vx gs scope epos) = true) : ∃ f, chkD Γ f (.DictComp kx vx gs scope epos) = true ∧ ∀ {σ : _root_.L2.St} {H : Hp} {Q : VK}, lE (wd X) B (tE Φ E c) σ H Q → lFD (wd X) B (tDd Φ E f) σ H Q := by
  cases c <;> first | (simp [chkE] at hc; done) | skip
  · rename_i f
    cases f <;> simp [chkE, chkF] at hc
  · rename_i f
    cases f <;> simp [chkE, chkF] at hc
  · rename_i f
    refine ⟨f, by simpa only [chkE] using hc, fun {σ H Q} ⟨m, L, ds, Qd, S, q, c⟩ => ?_⟩
    refine ⟨m, L, ds, _, S, by unfold tE semE at q; exact q, fun b ks vs L' m' H' p q' n => c _ L' _ _ H' q' n.frz.1 n.frz.2.1 n.frz.2.2⟩
  · rename_i f
    refine ⟨f, by simpa only [chkE] using hc, fun {σ H Q} ⟨m, L, ds, Qd, S, q, c⟩ => ?_⟩
    refine ⟨m, L, ds, _, S, by unfold tE semE at q; exact q, fun b ks vs L' m' H' p q' n => c _ _ _ _ H' q' n.num.1 n.num.2.1 n.num.2.2⟩
/-- name = {..} on one line -/
theorem setDc {f : ID} {i : Nat} {y : Str} {py spos : Pos} {kx vx : Expr} {gs : List Comprehension} (G : GoodS Φ B E k Γ X) (hy : Γ.N[i]? = some y) (hs : swT Γ y py scope epos = true) (h : chkD Γ f (.DictComp kx vx gs scope epos) = true) :
    PS X (.Assign [.Name y py] (.DictComp kx vx gs scope epos) spos) (tAsg (lFD (wd X) B (tDd Φ E f)) (gName i)) := by
  have G' := G.g
  unfold swT at hs
  simp only [Bool.and_eq_true] at hs
  obtain ⟨⟨s1, s2⟩, s3⟩ := hs
  have hl : X.env.scope.names.lookup y = some .local := by rw [G'.sc]; exact of_decide_eq_true s1
  have hyN : X.N[i]? = some y := by rw [G'.N]; exact hy
  cases f <;> first | (simp [chkD] at h; done) | skip
  rename_i t own i' v g it ifs
  unfold chkD at h
  split at h <;> first | (cases h; done) | skip
  rename_i k' v' tg it' ifs' scope' pos' heq
  cases heq
  obtain ⟨h1, h8⟩ := b2 h
  obtain ⟨h1, h5⟩ := b2 h1
  obtain ⟨h1, h4⟩ := b2 h1
  obtain ⟨h1, h3⟩ := b2 h1
  obtain ⟨h1, h2⟩ := b2 h1
  obtain ⟨h3, h6⟩ := b2 h3
  obtain ⟨h2, h7⟩ := b2 h2
  have ok : BlkOk X.N X.env.scope scope (own.map fun i => (Γ.N.getD i Str.empty, i)) := by rw [G'.N, G'.sc]; exact blkOk_by h1
  refine psI (ps_setDcT (t := t) (by have := G'.units; omega) G'.calm G'.ndX hyN hl (sw_trueD G.kind hl s2 (nb s3)) (sndI G' it _ _ h2 h7) ok (inBlk (tif := tIff Φ NoX ifs) (tk := tE Φ NoX i') (tv := tE Φ NoX v) G' h3 (fun X' hw G' => by have := sndIf G' ifs _ h4; rw [hw] at this; exact this) (fun X' hw G' => by have := (sndE G' i' _ h5).1; rw [hw] at this; exact this) (fun X' hw G' => by have := (sndE G' v _ h8).1; rw [hw] at this; exact this)) (foldI h2)) fun D σ H q => ?_
  rw [own_map]
  refine dcT_of (fun i hi => by simpa using List.all_eq_true.mp h6 i hi) ?_
  obtain ⟨m, L, ds, Qd, S, q, c⟩ := q
  exact ⟨m, L, ds, Qd, S, by unfold tDd semD at q; exact q, c⟩
theorem asg_all {g : IG} {c : IE} {tg e' : Expr} (G : GoodS Φ B E k Γ X) (h : chkAsg Γ g c tg e' = true) : DS X (wd X) B (.Assign [tg] e' pos) (fun N ds L => tE Φ E c ds L fun d L1 => semG g d ds fun ds1 => N.nx ds1 L1) := by
  unfold chkAsg at h
  simp only [Bool.and_eq_true] at h
  obtain ⟨⟨h1, h3⟩, h2⟩ := h
  have hg := g_ok (B := B) G.g g tg h1
  have he := (sndE G.g c e' h3).1
  cases tg <;> first | (cases h2; done) | skip
  · rename_i y py
    by_cases hc : ∃ elt gs scope epos, e' = .ListComp elt gs scope epos
    · obtain ⟨elt, gs, scope, epos, rfl⟩ := hc
      dsimp only at h2
      by_cases hs : swT Γ y py scope epos = true
      · rw [if_pos hs] at h2
        cases g <;> first | (cases h2; done) | skip
        rename_i i
        have hy : Γ.N[i]? = some y := of_decide_eq_true h2
        obtain ⟨f, hf, imp⟩ := imp_of (Φ := Φ) (B := B) (E := E) (X := X) (σ := []) (H := fun _ => none) (Q := fun _ _ => True) h3
        refine psI (setLc G hy hs hf) fun D σ H q => imp ?_
        obtain ⟨m, L, ds, N, S, q, o⟩ := q
        exact ⟨m, L, ds, _, S, q, fun d L' v m' H' q' st rl r => o.nx _ L' m' _ H' (by simpa [semG] using q') st ((S.nx st rl).set r)⟩
      · exact s_asg he hg (show swapsWith (.ListComp elt gs scope epos) (some (.Name y py)) pos.line X.env = pure false from sw_false G.kind G.g.sc (by simpa using hs)) rfl rfl
    by_cases hcd : ∃ kx vx gs scope epos, e' = .DictComp kx vx gs scope epos
    · obtain ⟨kx, vx, gs, scope, epos, rfl⟩ := hcd
      dsimp only at h2
      by_cases hs : swT Γ y py scope epos = true
      · rw [if_pos hs] at h2
        cases g <;> first | (cases h2; done) | skip
        rename_i i
        have hy : Γ.N[i]? = some y := of_decide_eq_true h2
        obtain ⟨f, hf, imp⟩ := impD_of (Φ := Φ) (B := B) (E := E) (X := X) h3
        refine psI (setDc G hy hs hf) fun D σ H q => imp ?_
        obtain ⟨m, L, ds, N, S, q, o⟩ := q
        exact ⟨m, L, ds, _, S, q, fun d L' v m' H' q' st rl r => o.nx _ L' m' _ H' (by simpa [semG] using q') st ((S.nx st rl).set r)⟩
      · exact s_asg he hg (show swapsWith (.DictComp kx vx gs scope epos) (some (.Name y py)) pos.line X.env = pure false from sw_falseD G.kind G.g.sc (by simpa using hs)) rfl rfl
    · have hn : isComp e' = false := by
        cases e' <;> first | rfl | (cases h2; done) | exact absurd ⟨_, _, _, _, rfl⟩ hc | exact absurd ⟨_, _, _, _, _, rfl⟩ hcd
      refine s_asg he hg (show swapsWith e' (some (.Name y py)) pos.line X.env = pure false from sw_no hn) ?_ rfl
      cases e' <;> rfl
  · rename_i ts kt pt
    by_cases hc : ∃ vs kv pv, e' = .Tuple vs kv pv
    · obtain ⟨vs, kv, pv, rfl⟩ := hc
      simp only [Bool.and_eq_true] at h2
      obtain ⟨⟨⟨l1, l2⟩, l3⟩, l4⟩ := h2
      have l1 := of_decide_eq_true l1
      have l2 := of_decide_eq_true l2
      match ts, l1, vs, l2, h1, h3, hg, he, l3, l4 with
      | [t1, t2], _, [a, b], _, h1, h3, hg, he, l3, l4 => exact s_asg he hg (show swapsWith (.Tuple [a, b] kv pv) (some (.Tuple [t1, t2] kt pt)) pos.line X.env = pure false from sw_tup) (swF2 l3 l4) rfl
    · refine s_asg he hg (show swapsWith e' (some (.Tuple ts kt pt)) pos.line X.env = pure false from sw_tup) ?_ rfl
      cases e' <;> first | rfl | exact absurd ⟨_, _, _, rfl⟩ hc
theorem par_all {is : List Nat} {ir : IEs} {tg e' : Expr} (G : GoodS Φ B E k Γ X) (h : chkPar Γ is ir tg e' = true) : DS X (wd X) B (.Assign [tg] e' pos) (fun N ds L => tEs Φ E ir ds L fun xs L1 => xs.length = is.length ∧ N.nx (setsD is xs ds) L1) := by
  have hsc := G.g.sc
  have hN := G.g.N
  unfold chkPar at h
  split at h
  · rename_i i j x px y py kt pt a b k2 p2
    simp only [Bool.and_eq_true] at h
    obtain ⟨⟨he, ⟨⟨n1, n2⟩, n3⟩, n4⟩, ⟨⟨⟨⟨o1, o2⟩, o3⟩, o4⟩, o5⟩⟩ := h
    have n3 := of_decide_eq_true n3
    have n4 := of_decide_eq_true n4
    have n1 := of_decide_eq_true n1
    have n2 := of_decide_eq_true n2
    rw [← hsc] at n3 n4
    rw [← hN] at n1 n2
    have hij : i ≠ j := fun e => by
      subst e
      rw [n1] at n2
      cases n2
      simp at o2
    refine psI (ps_par G.g.calm G.g.ndX n1 n2 hij n3 n4 (sndEs G.g ir _ he) (sw2 G.kind n3 n4 o1 (nb o2) o3 (nb o4) (nb o5)) rfl) fun D σ H ⟨m, L, ds, N, S, q, o⟩ => ?_
    refine ⟨m, L, ds, _, S, q, fun xs L' vs m' H' q' st rl rs => ?_⟩
    · obtain ⟨hl, q'⟩ := q'
      match xs, hl with
      | [d1, d2], _ =>
        obtain ⟨v, u, rfl, r1, r2⟩ := two_of rs
        exact ⟨v, u, rfl, o.nx _ L' m' _ H' q' st (((S.nx st rl).set r1).set r2)⟩
  · rename_i i j l x px y py z pz kt pt a b c k2 p2
    simp only [Bool.and_eq_true] at h
    obtain ⟨⟨he, ⟨⟨⟨⟨n1, n2⟩, n5⟩, n3⟩, n4⟩, n6⟩, ⟨⟨⟨⟨⟨⟨⟨⟨o1, o2⟩, o3⟩, o4⟩, o5⟩, o6⟩, o7⟩, o8⟩, o9⟩⟩ := h
    have n3 := of_decide_eq_true n3
    have n4 := of_decide_eq_true n4
    have n6 := of_decide_eq_true n6
    have n1 := of_decide_eq_true n1
    have n2 := of_decide_eq_true n2
    have n5 := of_decide_eq_true n5
    rw [← hsc] at n3 n4 n6
    rw [← hN] at n1 n2 n5
    refine psI (ps_par3 G.g.calm G.g.ndX n1 n2 n5 (of_decide_eq_true o4) (of_decide_eq_true o5) (of_decide_eq_true o6) n3 n4 n6 (sndEs G.g ir _ he) (sw3 G.kind n3 n4 n6 o1 o2 (of_decide_eq_true o3) o7 (nb o8) (nb o9)) rfl) fun D σ H ⟨m, L, ds, N, S, q, o⟩ => ?_
    refine ⟨m, L, ds, _, S, q, fun xs L' vs m' H' q' st rl rs => ?_⟩
    · obtain ⟨hl, q'⟩ := q'
      match xs, hl with
      | [d1, d2, d3], _ =>
        cases rs with
        | cons r1 rs =>
          obtain ⟨v, u, rfl, r2, r3⟩ := two_of rs
          exact ⟨_, v, u, rfl, o.nx _ L' m' _ H' q' st ((((S.nx st rl).set r1).set r2).set r3)⟩
  · cases h
theorem raise_ok {c x : Str} {p p2 p3 : Pos} {m : Str} {j : Nat} (G : GoodS Φ B E k Γ X) (hx : Γ.gl x = true) (hc : c = x) (hm : Γ.exs.contains c = true) :
    DS X (wd X) B (.Raise (some (.Call (.Name x p) [.Constant (.str m) j p2] [] p3)) none pos) (fun _ ds L => E c ds L) := by
  subst hc
  obtain ⟨C, g1, g2, g3, g4⟩ := G.exs c (by simpa using hm)
  obtain ⟨f1, f2, f3⟩ := G.g.gl hx
  exact psI (ps_raise G.g.calm G.g.tk (pmk_own PySem.F.excBase_ValueError g2 g1 g3 g4 f1 f2)) fun D σ H ⟨m, L, ds, N, S, q, o⟩ => ⟨c, m, L, ds, ⟨C, g1, rfl⟩, rfl, S, q⟩
/-! ### try -/
theorem GoodS.tr {E' : XS} {B' : Option En} {pn : List (Addr × Obj)} {xe : Value → Shared → Prop} (G : GoodS Φ B E k Γ X) (tk : Takes (X.tr pn xe) (lW (wd X) B' E')) (ps : PassesOwn (model X.prog X.w) X.A X.env xe) : GoodS Φ B' E' k Γ (X.tr pn xe) where
  g := { N := G.g.N, nd := G.g.nd, sc := G.g.sc, fn := G.g.fn, calm := G.g.calm, room := G.g.room, tk := tk, cst := G.g.cst, blt := G.g.blt, fns := G.g.fns, call := G.g.call, exi := G.g.exi }
  pass := ps
  kind := G.kind
  exs := G.exs
  stk := G.stk
  frm := G.frm
  ex := G.ex
theorem Sit.clr {m : Nb} {L : Hl} {H : Hp} {ds : Ds} {σ : _root_.L2.St} (S : Sit W B m L ds σ H) (i : Nat) : Sit W B m L (ds.set i none) (σ.set i none) H :=
  ⟨S.rl, by simpa using S.ln, fun j d e => by
    by_cases h : i = j
    · subst h
      rw [List.getElem?_set] at e
      simp at e
    · rw [List.getElem?_set_ne h] at e
      obtain ⟨v, h1, h2⟩ := S.rs j d e
      exact ⟨v, by rw [List.getElem?_set_ne h]; exact h1, h2⟩, S.st⟩
theorem Sit.base {m m' : Nb} {L L' : Hl} {H H' : Hp} {ds ds' : Ds} {σ σ' : _root_.L2.St} (S : Sit W B m L ds σ H) (S' : Sit W (some ⟨m, L, H⟩) m' L' ds' σ' H') : Sit W B m' L' ds' σ' H' :=
  ⟨S'.rl, S'.ln, S'.rs, fun b e => (S.st b e).trans (S'.st _ rfl)⟩
/-- the body of a try, from where it starts -/
theorem Out.inner {m : Nb} {L : Hl} {H : Hp} {ds : Ds} {σ : _root_.L2.St} {N : DN} {D : Ends} (S : Sit W B m L ds σ H) (o : Out W B m L H N D) : Out W (some ⟨m, L, H⟩) m L H N D :=
  ⟨fun ds' L' m' σ' H' q st S' => o.nx ds' L' m' σ' H' q st (S.base S'), fun ds' L' m' σ' H' q st S' => o.bk ds' L' m' σ' H' q st (S.base S'), fun ds' L' m' σ' H' q st S' => o.ct ds' L' m' σ' H' q st (S.base S'), o.rt⟩
theorem Sit.here {m : Nb} {L : Hl} {H : Hp} {ds : Ds} {σ : _root_.L2.St} (S : Sit W B m L ds σ H) : Sit W (some ⟨m, L, H⟩) m L ds σ H := ⟨S.rl, S.ln, S.rs, fun b e => by cases e; exact Step.refl⟩
theorem s_try {t : XS → TDn} {body : List Stmt} {x n y : Str} {i j : Nat} {np pa pb pc pd : Pos} (G : GoodS Φ B E k Γ X) (hx : Γ.gl x = true) (hin : Γ.exi.contains x = true) (hi : Γ.N[i]? = some n) (hn : Γ.sc.names.lookup n = some .local) (hok : okName n = true) (hj : Γ.N[j]? = some y) (hy : Γ.sc.names.lookup y = some .local)
    (hb : ∀ (B' : Option En) (E' : XS) (X' : Cx), wd X' = wd X → GoodS Φ B' E' k Γ X' → DSs X' (wd X) B' body (t E')) :
    DS X (wd X) B (.Try body [.ExceptHandler (some (.Name x np)) (some n) [.Assign [.Name y pb] (.Name n pa) pc] pd] [] [] pos) (fun N ds L => t (fun x' ds' L' => x' ∈ Γ.exi ∧ if exSub x' x = true then N.nx ((ds'.set j (some (.exc x'))).set i none) L' else E x' ds' L') N ds L) := by
  obtain ⟨f1, f2, f3⟩ := G.g.gl hx
  obtain ⟨C, hC, _⟩ := G.g.exi.cls x (by simpa using hin)
  have hl : ∀ z, Γ.sc.names.lookup z = some .local → X.env.scope.names.lookup z = some .local := fun z h => by rw [G.g.sc]; exact h
  refine psI (ps_try_keep (tb := fun W D σ H => ∃ (m : Nb) (L : Hl) (E' : XS), lS (wd X) (some ⟨m, L, H⟩) (t E') D σ H ∧ ∀ cls d σ' H', lW (wd X) (some ⟨m, L, H⟩) E' cls d σ' H' → W cls d σ' H') (Wo := lW (wd X) B E) G.stk G.frm G.ex G.g.ndX (by rw [G.g.N]; exact hi) (by rw [G.g.N]; exact (List.getElem?_eq_some_iff.mp hi).1) (hl n hn) (.inl (hl n hn)) (okName_of hok).1 (okName_of hok).2.1 (by rw [G.g.N]; exact hj) (hl y hy) ⟨f1, f2, .inl hC⟩ G.g.tk (sw_no rfl)
    fun W pn xe tk ps => ⟨fun pins s σ H D I ⟨m, L, E', q, hw⟩ => (hb (some ⟨m, L, H⟩) E' (X.tr pn xe) rfl (G.tr (tk.imp hw) ps)).run pins s σ H D I q⟩) fun D σ H ⟨m, L, ds, N, S, q, o⟩ => ?_
  refine ⟨m, L, _, ⟨m, L, ds, N, S.here, q, o.inner S⟩, fun cls d σ' H' ⟨c', m', L', ds', hc, hd, S', hin', h⟩ => ?_⟩
  subst hd
  obtain ⟨C', hC', rfl⟩ := hc
  have hC' : X.mg c' = some (.ref C') := hC'
  refine ⟨exSub c' x, (G.g.exi.rel c' hin' x (by simpa using hin) C' C hC' hC).1, fun hk => ⟨rfl, fun a na => ?_⟩, fun hk => ?_⟩
  · rw [if_pos hk] at h
    have st : Step m' L' H' m' L' (upd H' a (exHO (.ref C') a)) := Step.laid na
    have S2 : Sit (wd X) B m' L' ds' σ' (upd H' a (exHO (.ref C') a)) := (S.base S').nx st (S'.rl.laid na)
    refine o.nx _ L' m' _ _ h ((S'.st _ rfl).trans st) (Sit.clr (Sit.set S2 (.exc ⟨C', hC', upd_same⟩ (S'.rl.free na))) i)
  · rw [if_neg (by rw [hk]; exact Bool.false_ne_true)] at h
    exact ⟨c', m', L', ds', ⟨C', hC', rfl⟩, rfl, S.base S', h⟩
theorem s_tryr {t : XS → TDn} {body : List Stmt} {x : Str} {np pa pb pd : Pos} {ii : Nat} (G : GoodS Φ B E k Γ X) (hx : Γ.gl x = true) (hin : Γ.exi.contains x = true)
    (hb : ∀ (B' : Option En) (E' : XS) (X' : Cx), wd X' = wd X → GoodS Φ B' E' k Γ X' → DSs X' (wd X) B' body (t E')) :
    DS X (wd X) B (.Try body [.ExceptHandler (some (.Name x np)) none [.Return (some (.Constant .none ii pa)) pb] pd] [] [] pos) (fun N ds L => t (fun x' ds' L' => x' ∈ Γ.exi ∧ if exSub x' x = true then N.rt .non L' else E x' ds' L') N ds L) := by
  obtain ⟨f1, f2, f3⟩ := G.g.gl hx
  obtain ⟨C, hC, _⟩ := G.g.exi.cls x (by simpa using hin)
  refine psI (ps_try_only (c := .ref C) (ts := fun _ _ _ => tSeq (tRet (tC .non)) tNext) (tb := fun W D σ H => ∃ (m : Nb) (L : Hl) (E' : XS), lS (wd X) (some ⟨m, L, H⟩) (t E') D σ H ∧ ∀ cls d σ' H', lW (wd X) (some ⟨m, L, H⟩) E' cls d σ' H' → W cls d σ' H') (Wout := lW (wd X) B E) G.stk G.frm ⟨f1, f2, .inl hC⟩ G.g.tk
    (fun W pn xe tk ps => ⟨fun pins s σ H D I ⟨m, L, E', q, hw⟩ => (hb (some ⟨m, L, H⟩) E' (X.tr pn xe) rfl (G.tr (tk.imp hw) ps)).run pins s σ H D I q⟩)
    (fun a oe cls d pn _ _ => pss_cons (ps_ret pe_non) pss_nil)) fun D σ H ⟨m, L, ds, N, S, q, o⟩ => ?_
  refine ⟨m, L, _, ⟨m, L, ds, N, S.here, q, o.inner S⟩, fun cls d σ' H' ⟨c', m', L', ds', hc, hd, S', hin', h⟩ => ?_⟩
  subst hd
  obtain ⟨C', hC', rfl⟩ := hc
  have hC' : X.mg c' = some (.ref C') := hC'
  refine ⟨exSub c' x, (G.g.exi.rel c' hin' x (by simpa using hin) C' C hC' hC).1, fun hk a na => ?_, fun hk => ?_⟩
  · rw [if_pos hk] at h
    exact o.rt .non L' .non m' H' h (S'.st _ rfl) S'.rl .non
  · rw [if_neg (by rw [hk]; exact Bool.false_ne_true)] at h
    exact ⟨c', m', L', ds', ⟨C', hC', rfl⟩, rfl, S.base S', h⟩
mutual
theorem sndS {B : Option En} {E : XS} {X : Cx} (G : GoodS Φ B E k Γ X) : ∀ (ir : IS) (st : Stmt), chkS Γ ir st = true → DS X (wd X) B st (fun N ds L => semS Φ ir E N ds L)
  | .pass, st, h => by
    unfold chkS at h; split at h <;> first | (cases h; done) | skip
    exact cvS s_pass fun N ds L q => by unfold semS at q; exact q
  | .expr e, st, h => by
    unfold chkS at h; split at h <;> first | (cases h; done) | skip
    obtain ⟨h1, h2⟩ := b2 h
    refine cvS (s_expr (sndE G.g e _ h2).1 (sw_noN ?_)) fun N ds L q => by unfold semS at q; exact q
    rename_i e' _
    cases e' <;> first | rfl | cases h1
  | .asg g e, st, h => by
    unfold chkS at h; split at h <;> first | (cases h; done) | skip
    exact cvS (asg_all G h) fun N ds L q => by unfold semS at q; exact q
  | .par is es, st, h => by
    unfold chkS at h; split at h <;> first | (cases h; done) | skip
    exact cvS (par_all G h) fun N ds L q => by unfold semS at q; exact q
  | .seti o i e, st, h => by
    unfold chkS at h; split at h <;> first | (cases h; done) | skip
    obtain ⟨h1, h4⟩ := b2 h
    obtain ⟨h1, h3⟩ := b2 h1
    obtain ⟨h1, h2⟩ := b2 h1
    refine cvS (s_seti (by have := G.g.units; omega) (nb h4) (sndE G.g e _ h3).1 (sndE G.g o _ h1).1 (sndE G.g i _ h2).1 sw_sub sw_sub2) fun N ds L q => by unfold semS at q; exact q
  | .aug i e, st, h => by
    unfold chkS at h; split at h <;> first | (cases h; done) | skip
    obtain ⟨h1, h2⟩ := b2 h
    obtain ⟨l1, l2, l3⟩ := G.g.loc h1
    exact cvS (s_aug G.g.ndX l1 l2 l3 (sndE G.g e _ h2).1) fun N ds L q => by unfold semS at q; exact q
  | .ret e, st, h => by
    unfold chkS at h; split at h <;> first | (cases h; done) | skip
    exact cvS (s_ret (sndE G.g e _ h).1) fun N ds L q => by unfold semS at q; exact q
  | .ret0, st, h => by
    unfold chkS at h; split at h <;> first | (cases h; done) | skip
    exact cvS s_ret0 fun N ds L q => by unfold semS at q; exact q
  | .ite c a b, st, h => by
    unfold chkS at h; split at h <;> first | (cases h; done) | skip
    obtain ⟨h1, h3⟩ := b2 h
    obtain ⟨h1, h2⟩ := b2 h1
    exact cvS (s_if (sndE G.g c _ h1).2 (sndSs G a _ h2) (sndSs G b _ h3)) fun N ds L q => by unfold semS at q; exact q
  | .for_ g it b, st, h => by
    unfold chkS at h; split at h <;> first | (cases h; done) | skip
    obtain ⟨h1, h3⟩ := b2 h
    obtain ⟨h1, h2⟩ := b2 h1
    obtain ⟨h2, h4⟩ := b2 h2
    exact cvS (s_for G.pass G.g.calm (sndI G.g it _ _ h2 h4) (g_ok G.g g _ h1) (sndSs G b _ h3) (foldI h2)) fun N ds L q => by unfold semS at q; exact q
  | .while_ c b, st, h => by
    unfold chkS at h; split at h <;> first | (cases h; done) | skip
    obtain ⟨h1, h2⟩ := b2 h
    exact cvS (s_while G.pass (sndE G.g c _ h1).2 (sndSs G b _ h2)) fun N ds L q => by unfold semS at q; exact q
  | .brk, st, h => by
    unfold chkS at h; split at h <;> first | (cases h; done) | skip
    exact cvS s_brk fun N ds L q => by unfold semS at q; exact q
  | .cont, st, h => by
    unfold chkS at h; split at h <;> first | (cases h; done) | skip
    exact cvS s_cont fun N ds L q => by unfold semS at q; exact q
  | .raise c, st, h => by
    unfold chkS at h; split at h <;> first | (cases h; done) | skip
    obtain ⟨h1, h3⟩ := b2 h
    obtain ⟨h1, h2⟩ := b2 h1
    exact cvS (raise_ok G h1 (of_decide_eq_true h2) h3) fun N ds L q => by unfold semS at q; exact q
  | .try_ b c xs i j, st, h => by
    unfold chkS at h; split at h <;> first | (cases h; done) | skip
    simp only [Bool.and_eq_true, decide_eq_true_eq] at h
    obtain ⟨⟨⟨h1, ⟨⟨h2, h3⟩, h4⟩, h5⟩, ⟨⟨h6, h7⟩, h8⟩, h11⟩, h9, h10⟩ := h
    subst h3 h4 h8
    exact cvS (s_try (t := fun E' N ds L => semSs Φ b E' N ds L) G h2 h5 h6 h7 h11 h9 h10 fun B' E' X' hw G' => by have := sndSs G' b _ h1; rw [hw] at this; exact this) fun N ds L q => by unfold semS at q; exact q
  | .tryr b c xs, st, h => by
    unfold chkS at h; split at h <;> first | (cases h; done) | skip
    simp only [Bool.and_eq_true, decide_eq_true_eq] at h
    obtain ⟨h1, ⟨⟨h2, h3⟩, h4⟩, h5⟩ := h
    subst h3 h4
    exact cvS (s_tryr (t := fun E' N ds L => semSs Φ b E' N ds L) G h2 h5 fun B' E' X' hw G' => by have := sndSs G' b _ h1; rw [hw] at this; exact this) fun N ds L q => by unfold semS at q; exact q
theorem sndSs {B : Option En} {E : XS} {X : Cx} (G : GoodS Φ B E k Γ X) : ∀ (ir : ISs) (st : List Stmt), chkSs Γ ir st = true → DSs X (wd X) B st (fun N ds L => semSs Φ ir E N ds L)
  | .nil, st, h => by
    cases st with
    | nil => exact cvSs s_nil fun N ds L q => by unfold semSs at q; exact q
    | cons a b => simp [chkSs] at h
  | .cons s r, st, h => by
    cases st with
    | nil => simp [chkSs] at h
    | cons a b =>
      unfold chkSs at h
      obtain ⟨h1, h2⟩ := b2 h
      exact cvSs (s_cons (sndS G s a h1) (sndSs G r b h2)) fun N ds L q => by unfold semSs at q; exact q
end
end
end Nr

/-! What a def leaves; a def keeps its contract; a table of defs. -/
namespace Nr
open PySem PySem.Spec PyProof.Rows L2
/-! ### numbers below n -/
mutual
def below (n : Nat) : D → Bool
  | .obj i => decide (i < n)
  | .tup xs => belows n xs
  | .lst xs => belows n xs
  | .scr xs => belows n xs
  | .dct _ ks vs => belows n ks && belows n vs
  | _ => true
def belows (n : Nat) : List D → Bool
  | [] => true
  | x :: xs => below n x && belows n xs
end
mutual
theorem below_of_nonum {n : Nat} : ∀ {d : D}, nonum d = true → below n d = true
  | .obj _, h => by simp [nonum] at h
  | .tup xs, h => by rw [below]; exact belows_of_nonum (by simpa only [nonum] using h)
  | .lst xs, h => by rw [below]; exact belows_of_nonum (by simpa only [nonum] using h)
  | .scr xs, h => by rw [below]; exact belows_of_nonum (by simpa only [nonum] using h)
  | .dct t ks vs, h => by
    simp only [nonum, Bool.and_eq_true] at h
    rw [below, belows_of_nonum h.1, belows_of_nonum h.2]; rfl
  | .non, _ => by simp [below]
  | .bl _, _ => by simp [below]
  | .int _, _ => by simp [below]
  | .str _, _ => by simp [below]
  | .exc _, _ => by simp [below]
theorem belows_of_nonum {n : Nat} : ∀ {ds : List D}, nonum.nonums ds = true → belows n ds = true
  | [], _ => by simp [belows]
  | x :: xs, h => by
    simp only [nonum.nonums, Bool.and_eq_true] at h
    rw [belows, below_of_nonum h.1, belows_of_nonum h.2]; rfl
end
section
variable {W : Wd} {m m' m2 : Nb} {L L' L2 Lq : Hl} {H H' : Hp}
mutual
theorem below_rep : ∀ {v : V} {d : D}, RepV W m L H v d → below L.length d = true
  | _, _, .non => by simp [below]
  | _, _, .bl b => by simp [below]
  | _, _, .int i => by simp [below]
  | _, _, .str x h => by simp [below]
  | _, _, .tup h r ap => by rw [below]; exact belows_rep r
  | _, _, .tupK h r => by rw [below]; exact belows_rep r
  | _, _, .lst h r ap => by rw [below]; exact belows_rep r
  | _, _, .scr h r ap => by rw [below]; exact belows_rep r
  | _, _, .scrK h r => by rw [below]; exact belows_rep r
  | _, _, .dct h r1 r2 ap => by rw [below, belows_rep r1, belows_rep r2]; rfl
  | _, _, .obj h => by simp [below, h]
  | _, _, .exc h ap => by simp [below]
theorem belows_rep : ∀ {vs : List V} {ds : List D}, RepVs W m L H vs ds → belows L.length ds = true
  | _, _, .nil => by simp [belows]
  | _, _, .cons h r => by rw [belows, below_rep h, belows_rep r]; rfl
end
/-- fewer numbers -/
structure Fw (n : Nat) (m : Nb) (L : Hl) (m2 : Nb) (L2 : Hl) : Prop where
  ap : ∀ a, Apart m L a → Apart m2 L2 a
  ids : ∀ i, i < n → m2.m i = m.m i
  len : n ≤ L2.length
mutual
theorem RepV.fw {n : Nat} (f : Fw n m L m2 L2) : ∀ {v : V} {d : D}, RepV W m L H v d → below n d = true → RepV W m2 L2 H v d
  | _, _, .non, _ => .non
  | _, _, .bl b, _ => .bl b
  | _, _, .int i, _ => .int i
  | _, _, .str x h, _ => .str x h
  | _, _, .tup h r ap, b => .tup h (RepVs.fw f r (by simpa only [below] using b)) (f.ap _ ap)
  | _, _, .tupK h r, b => .tupK h (RepVs.fw f r (by simpa only [below] using b))
  | _, _, .lst h r ap, b => .lst h (RepVs.fw f r (by simpa only [below] using b)) (f.ap _ ap)
  | _, _, .scr h r ap, b => .scr h (RepVs.fw f r (by simpa only [below] using b)) (f.ap _ ap)
  | _, _, .scrK h r, b => .scrK h (RepVs.fw f r (by simpa only [below] using b))
  | _, _, .dct h r1 r2 ap, b => by
    simp only [below, Bool.and_eq_true] at b
    exact .dct h (RepVs.fw f r1 b.1) (RepVs.fw f r2 b.2) (f.ap _ ap)
  | _, _, .obj (i := i) h, b => by
    have hi : i < n := by simpa [below] using b
    rw [← f.ids i hi]
    exact .obj (Nat.lt_of_lt_of_le hi f.len)
  | _, _, .exc h ap, _ => .exc h (f.ap _ ap)
theorem RepVs.fw {n : Nat} (f : Fw n m L m2 L2) : ∀ {vs : List V} {ds : List D}, RepVs W m L H vs ds → belows n ds = true → RepVs W m2 L2 H vs ds
  | _, _, .nil, _ => .nil
  | _, _, .cons h r, b => by
    simp only [belows, Bool.and_eq_true] at b
    exact .cons (RepV.fw f h b.1) (RepVs.fw f r b.2)
end
def O.below (n : Nat) : O → Bool
  | .dead => true
  | .lst xs => belows n xs
  | .dct _ ks vs => belows n ks && belows n vs
  | .ins _ fs => belows n (fs.map (·.2))
theorem O.below_of_nonum {n : Nat} {o : O} (h : o.nonum = true) : o.below n = true := by
  cases o with
  | dead => rfl
  | lst xs => exact belows_of_nonum h
  | dct t ks vs =>
    simp only [O.nonum, Bool.and_eq_true] at h
    simp only [O.below, belows_of_nonum h.1, belows_of_nonum h.2, Bool.and_self]
  | ins c fs => cases h
theorem below_repO {a : Addr} {o : O} (h : RepO W m L H a o) : o.below L.length = true := by
  cases o with
  | dead => rfl
  | lst xs => obtain ⟨_, _, r⟩ := h; exact belows_rep r
  | dct t ks vs => obtain ⟨_, _, _, r1, r2⟩ := h; simp only [O.below, belows_rep r1, belows_rep r2, Bool.and_self]
  | ins c fs => obtain ⟨_, _, _, _, _, _, _, _, r⟩ := h; exact belows_rep r
theorem RepO.fw {n : Nat} (f : Fw n m L m2 L2) {a : Addr} {o : O} (h : RepO W m L H a o) (b : o.below n = true) : RepO W m2 L2 H a o := by
  cases o with
  | dead => trivial
  | lst xs => obtain ⟨vs, h1, r⟩ := h; exact ⟨vs, h1, r.fw f b⟩
  | dct t ks vs =>
    obtain ⟨kv, vv, h1, r1, r2⟩ := h
    simp only [O.below, Bool.and_eq_true] at b
    exact ⟨kv, vv, h1, r1.fw f b.1, r2.fw f b.2⟩
  | ins c fs => obtain ⟨C, dx, gs, h1, h2, h3, h4, h5, r⟩ := h; exact ⟨C, dx, gs, h1, h2, h3, f.ap _ h4, h5, r.fw f b⟩
theorem alive_pre {i : Nat} (hl : L' = Lq ++ L'.drop L.length) (hq : Lq.length = L.length) (h : Alive Lq i) : Alive L' i ∧ i < L.length := by
  obtain ⟨o, e, lv⟩ := h
  have hi := (List.getElem?_eq_some_iff.mp e).1
  refine ⟨⟨o, ?_, lv⟩, by omega⟩
  rw [hl, List.getElem?_append_left hi]
  exact e
theorem get_pre {i : Nat} {o : O} (hl : L' = Lq ++ L'.drop L.length) (e : Lq[i]? = some o) : L'[i]? = some o := by
  have hi := (List.getElem?_eq_some_iff.mp e).1
  rw [hl, List.getElem?_append_left hi]
  exact e
section
variable {nn : Nat} {L2 : Hl} {m2 : Nb}
mutual
theorem frz_ok (f : Fw nn m' L' m2 L2) (hl : nn ≤ L'.length) (hm : ∀ j, m2.m j = m'.m j) (hr : m2.r = m'.r) (ha : ∀ i, Alive L2 i → Alive L' i ∧ i < nn) (rl : RepL W m' L' H') : ∀ {d d' : D} {v : V}, Frz nn L' d d' → RepV W m' L' H' v d → RepV W m2 L2 H' v d'
  | _, _, _, .same hd, rv => rv.fw f (below_of_nonum hd)
  | _, _, _, .tup h, rv => by
    cases rv with
    | tup h1 r ap => exact .tup h1 (frzs_ok f hl hm hr ha rl h r) ⟨fun i ai => by rw [hm]; exact ap.1 i (ha i ai).1, by rw [hr]; exact ap.2⟩
    | tupK h1 r => exact .tupK h1 (frzs_ok f hl hm hr ha rl h r)
  | _, _, _, .lst h, rv => by
    cases rv with
    | lst h1 r ap => exact .lst h1 (frzs_ok f hl hm hr ha rl h r) ⟨fun i ai => by rw [hm]; exact ap.1 i (ha i ai).1, by rw [hr]; exact ap.2⟩
  | _, _, _, .obj (j := j) hj e h, rv => by
    cases rv with
    | obj hh =>
      obtain ⟨vs, h1, h2⟩ := rl.ob _ _ e
      have aj : Alive L' j := ⟨_, e, trivial⟩
      refine .lst h1 (frzs_ok f hl hm hr ha rl h h2) ⟨fun i ai z => ?_, by rw [hr]; exact rl.nr j aj⟩
      rw [hm] at z
      have := rl.inj i j (ha i ai).1 aj z
      have := (ha i ai).2
      omega
  | _, _, _, .objd (j := j) hj e hk h, rv => by
    cases rv with
    | obj hh =>
      obtain ⟨kv, vv, h1, h2, h3⟩ := rl.ob _ _ e
      have aj : Alive L' j := ⟨_, e, trivial⟩
      refine .dct h1 (h2.fw f (belows_of_nonum hk)) (frzs_ok f hl hm hr ha rl h h3) ⟨fun i ai z => ?_, by rw [hr]; exact rl.nr j aj⟩
      rw [hm] at z
      have := rl.inj i j (ha i ai).1 aj z
      have := (ha i ai).2
      omega
theorem frzs_ok (f : Fw nn m' L' m2 L2) (hl : nn ≤ L'.length) (hm : ∀ j, m2.m j = m'.m j) (hr : m2.r = m'.r) (ha : ∀ i, Alive L2 i → Alive L' i ∧ i < nn) (rl : RepL W m' L' H') : ∀ {ds ds' : List D} {vs : List V}, Frzs nn L' ds ds' → RepVs W m' L' H' vs ds → RepVs W m2 L2 H' vs ds'
  | _, _, _, .nil, .nil => .nil
  | _, _, _, .cons h t, .cons r s => .cons (frz_ok f hl hm hr ha rl h r) (frzs_ok f hl hm hr ha rl t s)
end
end
/-- what is forgotten is not missed -/
theorem trim_ok {d d' : D} {v : V} (T : Trim L L' d d' Lq) (r0 : RepL W m L H) (st : Step m L H m' L' H') (rl : RepL W m' L' H') (rv : RepV W m' L' H' v d) : ∃ m2, Step m L H m2 Lq H' ∧ RepL W m2 Lq H' ∧ RepV W m2 Lq H' v d' := by
  cases T with
  | same => exact ⟨m', st, rl, rv⟩
  | cut hd hl hq ho =>
    have f : Fw L.length m' L' m' Lq := ⟨fun a ap => ⟨fun i ai => ap.1 i (alive_pre hl hq ai).1, ap.2⟩, fun _ _ => rfl, Nat.le_of_eq hq.symm⟩
    refine ⟨m', ⟨Nat.le_of_eq hq.symm, st.ids, st.rs, fun i hi ai => st.live i hi (alive_pre hl hq ai).1, st.keep, st.there, fun i hi ai => ?_⟩, ⟨fun i o e => ?_, fun i j ai aj e => rl.inj i j (alive_pre hl hq ai).1 (alive_pre hl hq aj).1 e, rl.res, fun i ai => rl.nr i (alive_pre hl hq ai).1⟩, rv.fw f (below_of_nonum hd)⟩
    · exact absurd (alive_pre hl hq ai).2 (Nat.not_lt.mpr hi)
    · have hi : i < L.length := by have := (List.getElem?_eq_some_iff.mp e).1; omega
      refine (rl.ob i o (get_pre hl e)).fw f ?_
      rcases ho i o e with z | z
      · exact below_repO (r0.ob i o z)
      · exact O.below_of_nonum z
  | froz hz hl hq ho =>
    have f : Fw L.length m' L' m' Lq := ⟨fun a ap => ⟨fun i ai => ap.1 i (alive_pre hl hq ai).1, ap.2⟩, fun _ _ => rfl, Nat.le_of_eq hq.symm⟩
    refine ⟨m', ⟨Nat.le_of_eq hq.symm, st.ids, st.rs, fun i hi ai => st.live i hi (alive_pre hl hq ai).1, st.keep, st.there, fun i hi ai => ?_⟩, ⟨fun i o e => ?_, fun i j ai aj e => rl.inj i j (alive_pre hl hq ai).1 (alive_pre hl hq aj).1 e, rl.res, fun i ai => rl.nr i (alive_pre hl hq ai).1⟩, frz_ok f st.len (fun _ => rfl) rfl (fun i ai => alive_pre hl hq ai) rl hz rv⟩
    · exact absurd (alive_pre hl hq ai).2 (Nat.not_lt.mpr hi)
    · have hi : i < L.length := by have := (List.getElem?_eq_some_iff.mp e).1; omega
      refine (rl.ob i o (get_pre hl e)).fw f ?_
      rcases ho i o e with z | z
      · exact below_repO (r0.ob i o z)
      · exact O.below_of_nonum z
  | fresh hj hLj hn hl hq ho =>
    rename_i j o0 Lp
    have al : ∀ {i : Nat}, Alive (Lp ++ [o0]) i → (i < L.length ∧ Alive L' i ∧ Alive Lp i) ∨ (i = L.length ∧ Alive L' j) := fun {i} h => by
      obtain ⟨o, e, lv⟩ := h
      by_cases hi : i < Lp.length
      · rw [List.getElem?_append_left hi] at e
        exact .inl ⟨by omega, (alive_pre hl hq ⟨o, e, lv⟩).1, o, e, lv⟩
      · have hh := (List.getElem?_eq_some_iff.mp e).1
        simp at hh
        have : i = Lp.length := by omega
        subst this
        rw [List.getElem?_append_right (Nat.le_refl _)] at e
        simp at e
        subst e
        exact .inr ⟨hq, o0, hLj, lv⟩
    have f : Fw L.length m' L' (nwId m' L.length (m'.m j)) (Lp ++ [o0]) := by
      refine ⟨fun a ap => ⟨fun i ai => ?_, ap.2⟩, fun i hi => nwId_ne (Nat.ne_of_lt hi), by simp; omega⟩
      rcases al ai with ⟨hi, a1, _⟩ | ⟨hi, a1⟩
      · rw [nwId_ne (Nat.ne_of_lt hi)]; exact ap.1 i a1
      · rw [hi, nwId_same]; exact ap.1 j a1
    refine ⟨nwId m' L.length (m'.m j), ⟨by simp; omega, fun i hi => by rw [nwId_ne (Nat.ne_of_lt hi)]; exact st.ids i hi, st.rs, fun i hi ai => ?_, st.keep, st.there, fun i hi ai => ?_⟩, ⟨fun i o e => ?_, fun i i2 ai aj e => ?_, rl.res, fun i ai => ?_⟩, ?_⟩
    · rcases al ai with ⟨_, a1, _⟩ | ⟨h, _⟩
      · exact st.live i hi a1
      · omega
    · rcases al ai with ⟨h, _⟩ | ⟨h, a1⟩
      · omega
      · rw [h, nwId_same]; exact st.new j hj a1
    · by_cases hi : i < Lp.length
      · rw [List.getElem?_append_left hi] at e
        rw [nwId_ne (by omega)]
        refine (rl.ob i o (get_pre hl e)).fw f ?_
        rcases ho i o e with z | z
        · exact below_repO (r0.ob i o z)
        · exact O.below_of_nonum z
      · have hh := (List.getElem?_eq_some_iff.mp e).1
        simp at hh
        have hi' : i = Lp.length := by omega
        subst hi'
        rw [List.getElem?_append_right (Nat.le_refl _)] at e
        simp at e
        subst e
        rw [hq, nwId_same]
        exact (rl.ob j _ hLj).fw f (O.below_of_nonum hn)
    · rcases al ai with ⟨hi, a1, _⟩ | ⟨hi, a1⟩ <;> rcases al aj with ⟨hj', a2, _⟩ | ⟨hj', a2⟩
      · rw [nwId_ne (Nat.ne_of_lt hi), nwId_ne (Nat.ne_of_lt hj')] at e
        exact rl.inj i i2 a1 a2 e
      · rw [nwId_ne (Nat.ne_of_lt hi), hj', nwId_same] at e
        have := rl.inj i j a1 a2 e
        omega
      · rw [nwId_ne (Nat.ne_of_lt hj'), hi, nwId_same] at e
        have := rl.inj j i2 a1 a2 e
        omega
      · rw [hi, hj']
    · rcases al ai with ⟨hi, a1, _⟩ | ⟨hi, a1⟩
      · rw [nwId_ne (Nat.ne_of_lt hi)]; exact rl.nr i a1
      · rw [hi, nwId_same]; exact rl.nr j a1
    · cases rv with
      | obj hh =>
        have := RepV.obj (W := W) (m := nwId m' L.length (m'.m j)) (L := Lp ++ [o0]) (H := H') (i := L.length) (by simp; omega)
        rw [nwId_same] at this
        exact this
end
/-! ### a def -/
/-- what is known at a place of the program -/
structure Base (Φ : Phi) (k : Nat) (Γ : Gm) (P : Program) (w : World) (K : PySem.W.Frag) (mg : Str → Option Value) (base : Heap) : Prop where
  cst : ∀ x i, Γ.cst.lookup x = some i → ∃ t, mg x = some (.int i t)
  blt : ∀ x ∈ bltNames, mg x = none
  fns : ∀ f ∈ Γ.fns, ∃ fa, mg f = some (.ref fa) ∧ PySem.W.keepIn K (.ref fa) = true
  exs : ∀ x ∈ Γ.exs, ∃ C, mg x = some (.ref C) ∧ PySem.W.excIn K C He.veBase "ValueError.__new__" = true ∧ PySem.W.keepIn K (.ref C) = true ∧ PySem.W.subIn K (.ref C) (.type "BaseException") = some true ∧ PySem.W.typeIn K (.ref C) = some (.type "type")
  call : ∀ f xs L Q Ex, Φ f xs L Q Ex → Fn ⟨P, w, K, mg⟩ base k (Φ f) f Γ.kws
  exi : ExF K mg Γ.exi
theorem start_rs {W : Wd} {m : Nb} {L : Hl} {H : Hp} : ∀ {vs : List V} {xs : List D} {n n' : Nat} (i : Nat) (d : D), RepVs W m L H vs xs → ((xs.map some ++ List.replicate n none : Ds))[i]? = some (some d) → ∃ v, ((vs.map some ++ List.replicate n' none : _root_.L2.St))[i]? = some (some v) ∧ RepV W m L H v d
  | _, _, n, n', i, d, .nil, e => by
    simp [List.getElem?_replicate] at e
  | _, _, n, n', 0, d, .cons r t, e => by
    simp at e
    subst e
    exact ⟨_, rfl, r⟩
  | _, _, n, n', i + 1, d, .cons r t, e => by
    have e' := start_rs (n := n) (n' := n') i d t (by simpa using e)
    simpa using e'
theorem def_ok {Φ : Phi} {k : Nat} {Γ : Gm} {P : Program} {w : World} {K : PySem.W.Frag} {mg : Str → Option Value} {base : Heap} {x : Str} {args : Arguments} {body : List Stmt} {ps : List Str} {f : Addr} {fd : FuncData} {ir : ISs} {φ : List D → Hl → QE → XH → Prop}
    (F : FunD K x x args body Γ.sc [] [] f fd) (S : FnScope Γ.N ps Γ.sc) (hfk : Γ.fnok = none) (hc : chkSs Γ ir body = true) (b : Base Φ k Γ P w K mg base)
    (hφ : ∀ xs L Q Ex, φ xs L Q Ex → xs.length = ps.length ∧ bodyK Φ Γ.N.length ir xs L Q Ex) : FnOk P w K mg base (L2.CX P w) (k + 1) f fd ps (lSp ⟨P, w, K, mg⟩ φ) := by
  refine F.ok S (fun vs H Q Ex ⟨m, L, xs, Qd, Ed, rl, rv, h, _⟩ => rv.length.trans (hφ _ _ _ _ h).1) fun cdv A outer s H vs Q Ex hr ⟨m, L, xs, Qd, Ed, rl, rv, h, c1, c2⟩ => ?_
  obtain ⟨hl, hb⟩ := hφ _ _ _ _ h
  have hpl : ps.length ≤ Γ.N.length := by have := congrArg List.length S.pre; rw [List.length_take] at this; omega
  let X := cxOf (L2.CX P w) P w K mg base Γ.N x Γ.sc f cdv A outer s H Ex
  have tk : Takes X (lW ⟨P, w, K, mg⟩ (some ⟨m, L, H⟩) (FinX L Ed)) := (takes_of (X := X) rfl rfl rfl rfl).imp fun cls d σ H' ⟨c, m', L', ds, h1, h2, h3, Lq, T, q⟩ => by
    subst h2
    have st := h3.st _ rfl
    obtain ⟨m2, st2, rl2, _⟩ := trim_ok T rl st h3.rl (.non (W := ⟨P, w, K, mg⟩))
    exact c2 c Lq cls m2 H' q h1 st2 rl2
  have G : GoodS Φ (some ⟨m, L, H⟩) (FinX L Ed) k Γ X :=
    { g := { N := rfl, nd := S.nd, sc := rfl, fn := fun _ _ _ => .inl rfl, calm := rfl, room := hr, tk := tk, cst := b.cst, blt := b.blt, fns := b.fns, call := b.call, exi := b.exi }
      pass := passes_of rfl
      kind := S.kind
      exs := fun c hc => by
        obtain ⟨C, h1, h2, h3, h4, h5⟩ := b.exs c hc
        exact ⟨C, h1, h2, h3, raises_own h4 h5⟩
      stk := rfl
      frm := rfl
      ex := rfl }
  refine ⟨_, sndSs G ir body hc, ⟨m, L, startD Γ.N.length xs, _, ⟨rl, ?_, fun i d e => ?_, fun e he => by cases he; exact Step.refl⟩, hb, ?_⟩⟩
  · show (startD Γ.N.length xs).length = (_root_.L2.start Γ.N vs).length
    unfold startD _root_.L2.start
    simp only [List.length_append, List.length_map, List.length_replicate, rv.length]
  · exact start_rs i d rv e
  · refine ⟨fun ds' L' m' σ' H' q st S' => ?_, fun _ _ _ _ _ q _ _ => q.elim, fun _ _ _ _ _ q _ _ => q.elim, fun d L' v m' H' q st rl' r => ?_⟩
    · obtain ⟨d', Lq, T, q⟩ := q
      obtain ⟨m2, st2, rl2, r2⟩ := trim_ok T rl st S'.rl (.non (W := ⟨P, w, K, mg⟩))
      exact c1 d' Lq _ m2 H' q st2 rl2 r2
    · obtain ⟨d', Lq, T, q⟩ := q
      obtain ⟨m2, st2, rl2, r2⟩ := trim_ok T rl st rl' r
      exact c1 d' Lq _ m2 H' q st2 rl2 r2
end Nr

/-! A table of defs; the law's end. -/
namespace Nr
open PySem PySem.Spec PyProof.Rows L2
structure Def where
  nm : Str
  N : List Str
  np : Nat
  args : Arguments
  body : List Stmt
  sc : Scope
  ir : ISs
def Def.ps (d : Def) : List Str := d.N.take d.np
structure Tb where
  defs : List Def
  cst : List (Str × Int)
  kws : List (Str × Nat × List Str × List Nat)
  exs : List Str
  exi : List Str := []
def Tb.gm (T : Tb) (d : Def) : Gm := { N := d.N, sc := d.sc, fnok := none, fns := T.defs.map (·.nm), cst := T.cst, kws := T.kws, exs := T.exs, exi := T.exi }
def Tb.get (T : Tb) (f : Str) : Option Def := T.defs.find? fun d => decide (d.nm = f)
def isFnKind : ScopeKind → Bool
  | .function => true
  | _ => false
def isFree : NameKind → Bool
  | .free => true
  | _ => false
/-- the check of one def -/
def Tb.chk (T : Tb) (d : Def) : Bool := chkSs (T.gm d) d.ir d.body && (isFnKind d.sc.kind && !d.sc.isCoroutine && !d.sc.isGenerator && decide d.N.Nodup && decide (d.np ≤ d.N.length) && d.ps.all (fun x => isLoc (d.sc.names.lookup x)) && d.sc.names.all (fun y => !isFree y.2))
/-- how arguments become bound -/
def BindOk (T : Tb) (d : Def) : Prop := ∀ (kV doc pm : Value) (an : Option Addr) (cdv ct : Value),
  (∀ us : List Value, us.length = d.ps.length → bindArgs (PySem.W.fnOf d.nm d.nm d.args d.body d.sc .none kV doc pm an cdv ct) ⟨us, []⟩ = pure (d.ps.zip us)) ∧
  ∀ q ∈ T.kws, q.1 = d.nm → ∀ us ws : List Value, us.length = q.2.1 → ws.length = q.2.2.1.length → bindArgs (PySem.W.fnOf d.nm d.nm d.args d.body d.sc .none kV doc pm an cdv ct) ⟨us, q.2.2.1.zip ws⟩ = pure (d.ps.zip (q.2.2.2.filterMap fun i => (us ++ ws)[i]?))
def Tb.kwC (T : Tb) (d : Def) : Bool := T.kws.all fun q => if q.1 = d.nm then decide (q.2.2.2.length = d.ps.length) && q.2.2.2.all (fun i => decide (i < q.2.1 + q.2.2.1.length)) else true
/-- what the law's head knows -/
def Tb.fn (T : Tb) : List He.DefD := T.defs.map fun d => ⟨(d.nm, none), d.nm, d.nm, d.args, d.body, d.sc, [], []⟩
def Tb.fa (T : Tb) : List He.Fa := T.defs.map (fun d => .glo d.nm) ++ (bltNames.map .free ++ (T.cst.map (fun q => .int q.1 q.2) ++ (T.exs.map .glo ++ (T.exs.map .exc ++ T.exi.map .glo))))
/-! ### the classes of errors -/
def excOne (K : PySem.W.Frag) (C : Addr) : Bool := He.eqO (PySem.W.findIn K (.ref C) "__getattribute__") (some (some (.builtin "BaseException.__getattribute__"))) && (He.eqO (PySem.W.findIn K (.ref C) "__getattr__") (some none) && (decide (PySem.W.subIn K (.ref C) (.type "BaseException") = some true) && (PySem.W.hasDictIn K C &&
  (He.eqO (PySem.W.findIn K (.ref C) "__class__") (some (some (.builtin "object.__class__"))) && (He.eqO (PySem.W.specialIn K (.builtin "object.__class__") "__get__") (some (some (.builtin "getset_descriptor.__get__"))) && (decide (PySem.W.takesIn K (.builtin "object.__class__") = some true) && (decide (PySem.W.mroIn K C (.type "object") = some true) && decide (PySem.W.kitOne K (.ref C) (.type "ValueError") = some true))))))))
def excB (K : PySem.W.Frag) (exi : List Str) : Bool := exi.all (fun x => excOne K (He.ga K x)) && exi.all fun x => exi.all fun y => decide (PySem.W.exmOne K (.ref (He.ga K x)) (.ref (He.ga K y)) = some (exSub x y)) && decide (PySem.W.kitOne K (.ref (He.ga K x)) (.ref (He.ga K y)) = some (exSub x y))
abbrev AlN : Type := He.AlD × Bool
def obsNG (n : Nat) (fa : List He.Fa) (fn : List He.DefD) (exi : List Str) (g : Addr → Option Obj) : AlN := (He.obsDG n fa fn g, excB (He.frG g (He.asD g n)) exi)
def hookN (n : Nat) (fa : List He.Fa) (fn : List He.DefD) (exi : List Str) : PySem.W.Hook where
  α := AlN
  obs := fun s => obsNG n fa fn exi s.heap.get?
  val := fun _ => (He.valD fn, true)
  says := fun _ h => ∃ K : PySem.W.Frag, K.In h ∧ He.SaysD fa fn K ∧ excB K exi = true
  of := fun _ _ e => ⟨_, He.frG_in, (Prod.mk.inj e).1, (Prod.mk.inj e).2⟩
  keeps := fun _ _ _ ⟨K, hK, c⟩ k => ⟨K, PySem.W.Frag.In.keeps hK k, c⟩
theorem obsNG_eq {n : Nat} {fa : List He.Fa} {fn : List He.DefD} {exi : List Str} {g : Addr → Option Obj} {s : Shared} (h : ∀ a, g a = s.heap.get? a) : obsNG n fa fn exi g = (hookN n fa fn exi).obs s := by
  have e : g = s.heap.get? := funext h
  rw [e]
  rfl
theorem exc_facts {K : PySem.W.Frag} {mg : Str → Option Value} {exi : List Str} (h : excB K exi = true) (hg : ∀ x ∈ exi, mg x = some (.ref (He.ga K x))) : ExF K mg exi := by
  unfold excB at h
  obtain ⟨h1, h2⟩ := b2 h
  refine ⟨fun x hx => ?_, fun x hx y hy C D hC hD => ?_⟩
  · have := List.all_eq_true.mp h1 x hx
    unfold excOne at this
    obtain ⟨a1, this⟩ := b2 this
    obtain ⟨a2, this⟩ := b2 this
    obtain ⟨a3, this⟩ := b2 this
    obtain ⟨a4, this⟩ := b2 this
    obtain ⟨a5, this⟩ := b2 this
    obtain ⟨a6, this⟩ := b2 this
    obtain ⟨a7, this⟩ := b2 this
    obtain ⟨a8, a9⟩ := b2 this
    exact ⟨_, hg x hx, ⟨He.eqO_ok a1, He.eqO_ok a2, of_decide_eq_true a3, a4, He.eqO_ok a5, He.eqO_ok a6, of_decide_eq_true a7, of_decide_eq_true a8⟩, of_decide_eq_true a9⟩
  · have e1 := hg x hx
    have e2 := hg y hy
    rw [hC] at e1
    rw [hD] at e2
    cases e1
    cases e2
    obtain ⟨b1, b3⟩ := b2 (List.all_eq_true.mp (List.all_eq_true.mp h2 x hx) y hy)
    exact ⟨of_decide_eq_true b1, of_decide_eq_true b3⟩
section
variable {T : Tb} {P : Program} {w : World} {K : PySem.W.Frag} {mg : Str → Option Value} {base : Heap}
theorem scope_of {d : Def} (h : T.chk d = true) : chkSs (T.gm d) d.ir d.body = true ∧ FnScope d.N d.ps d.sc := by
  unfold Tb.chk at h
  simp only [Bool.and_eq_true] at h
  obtain ⟨h0, ⟨⟨⟨⟨⟨h1, h2⟩, h3⟩, h4⟩, h5⟩, h6⟩, h7⟩ := h
  refine ⟨h0, ⟨?_, nb h2, nb h3, of_decide_eq_true h4, ?_, fun x hx => isLoc_of (List.all_eq_true.mp h6 x hx), fun y hy e => ?_⟩⟩
  · cases e : d.sc.kind <;> rw [e] at h1 <;> first | rfl | cases h1
  · unfold Def.ps
    rw [List.length_take, Nat.min_eq_left (of_decide_eq_true h5)]
  · have := List.all_eq_true.mp h7 y hy
    rw [e] at this
    cases this
theorem lookup_pair {α : Type} : ∀ {l : List (Str × α)} {x : Str} {i : α}, l.lookup x = some i → (x, i) ∈ l
  | (k, v) :: r, x, i, h => by
    rw [List.lookup_cons] at h
    cases e : (x == k) with
    | true =>
      rw [e] at h
      cases h
      have := eq_of_beq e
      subst this
      exact List.mem_cons_self
    | false =>
      rw [e] at h
      exact List.mem_cons_of_mem _ (lookup_pair h)
/-- every def of the table keeps its contract, at every level -/
theorem table {Φn : Nat → Phi} {h : Heap} (KX : K.In h) (G : h.Ns mainGlobals mg) (c : He.SaysD T.fa T.fn K) (cx : excB K T.exi = true) (hchk : T.defs.all (fun d => T.chk d && T.kwC d) = true) (hbind : ∀ d ∈ T.defs, BindOk T d)
    (h0 : ∀ f xs L Q Ex, ¬ Φn 0 f xs L Q Ex)
    (hs : ∀ k f xs L Q Ex, Φn (k + 1) f xs L Q Ex → ∃ d, T.get f = some d ∧ xs.length = d.ps.length ∧ bodyK (Φn k) d.N.length d.ir xs L Q Ex) :
    ∀ k f xs L Q Ex, Φn k f xs L Q Ex → Fn ⟨P, w, K, mg⟩ base k (Φn k f) f T.kws
  | 0, f, xs, L, Q, Ex, h => absurd h (h0 f xs L Q Ex)
  | k + 1, f, xs, L, Q, Ex, hf => by
    obtain ⟨d, hd, _⟩ := hs k f xs L Q Ex hf
    have hm := List.mem_of_find?_eq_some hd
    have hn : d.nm = f := by simpa using List.find?_some hd
    subst hn
    have hc := List.all_eq_true.mp hchk d hm
    obtain ⟨hc1, hc2⟩ := b2 hc
    obtain ⟨hcs, S⟩ := scope_of hc1
    have hg : ∀ d ∈ T.defs, mg d.nm = some (.ref (He.ga K d.nm)) ∧ ∃ fd, FunD K d.nm d.nm d.args d.body d.sc [] [] (He.ga K d.nm) fd := fun d hm => by
      refine ⟨He.glo_ok KX G (c.facts (f := .glo d.nm) (List.mem_append_left _ (List.mem_map.mpr ⟨d, hm, rfl⟩))), ?_⟩
      exact c.defs (d := ⟨(d.nm, none), d.nm, d.nm, d.args, d.body, d.sc, [], []⟩) (List.mem_map.mpr ⟨d, hm, rfl⟩)
    obtain ⟨g1, fd, F⟩ := hg d hm
    have B : Base (Φn k) k (T.gm d) P w K mg base :=
      { cst := fun x i e => He.int_ok KX G (c.facts (f := .int x i) (List.mem_append_right _ (List.mem_append_right _ (List.mem_append_left _ (List.mem_map.mpr ⟨(x, i), lookup_pair e, rfl⟩)))))
        blt := fun x hx => He.free_ok KX G (c.facts (f := .free x) (List.mem_append_right _ (List.mem_append_left _ (List.mem_map.mpr ⟨x, hx, rfl⟩))))
        fns := fun f hf => by
          obtain ⟨d', hd', rfl⟩ := List.mem_map.mp hf
          obtain ⟨g1, fd, F⟩ := hg d' hd'
          exact ⟨_, g1, F.kp⟩
        exs := fun x hx => by
          obtain ⟨e1, e2, e3, e4⟩ := He.exc_ok (c.facts (f := .exc x) (List.mem_append_right _ (List.mem_append_right _ (List.mem_append_right _ (List.mem_append_right _ (List.mem_append_left _ (List.mem_map.mpr ⟨x, hx, rfl⟩)))))))
          exact ⟨_, He.glo_ok KX G (c.facts (f := .glo x) (List.mem_append_right _ (List.mem_append_right _ (List.mem_append_right _ (List.mem_append_left _ (List.mem_map.mpr ⟨x, hx, rfl⟩)))))), e1, e2, e3, e4⟩
        exi := exc_facts cx fun x hx => He.glo_ok KX G (c.facts (f := .glo x) (List.mem_append_right _ (List.mem_append_right _ (List.mem_append_right _ (List.mem_append_right _ (List.mem_append_right _ (List.mem_map.mpr ⟨x, hx, rfl⟩)))))))
        call := fun f xs L Q Ex hq => table KX G c cx hchk hbind h0 hs k f xs L Q Ex hq }
    refine ⟨_, fd, d.ps, g1, F.kp, def_ok (ir := d.ir) F S rfl hcs B fun xs L Q Ex hq => ?_, fun s us _ hl => F.bindsA (fun kV doc pm an cdv ct us hl => (hbind d hm kV doc pm an cdv ct).1 us hl) s us hl, fun n ks perm hq => ?_⟩
    · obtain ⟨d', hd', h1, h2⟩ := hs k _ xs L Q Ex hq
      rw [hd] at hd'
      cases hd'
      exact ⟨h1, h2⟩
    · have hk := List.all_eq_true.mp hc2 _ hq
      simp only [if_true, Bool.and_eq_true] at hk
      refine ⟨of_decide_eq_true hk.1, fun i hi => of_decide_eq_true (List.all_eq_true.mp hk.2 i hi), fun s us ws _ h1 h2 => ?_⟩
      obtain ⟨oc, od, dV, kV, doc, pm, an, cdv, ct, osl, rfl, lk, hcd, hD, hK⟩ := F.ex
      rcases hD with ⟨_, rfl⟩ | ⟨e, _⟩
      · exact .of_eq ((hbind d hm kV doc pm an cdv ct).2 _ hq rfl us ws h1 h2)
      · exact absurd rfl e
theorem not_alive {i : Nat} (h : Alive [] i) : False := absurd h.lt (by simp)
theorem repL_nil {W : Wd} {H : Hp} : RepL W ⟨fun _ => 0, []⟩ [] H := ⟨fun i o e => (by simp at e), fun i j ai => (not_alive ai).elim, fun a z => (by cases z), fun i ai => (not_alive ai).elim⟩
theorem apart_nil {a : Addr} : Apart ⟨fun _ => 0, []⟩ [] a := ⟨fun i ai => (not_alive ai).elim, fun z => by cases z⟩
/-- the law's def, from the outside -/
theorem law_ok {Φn : Nat → Phi} {h : Heap} {fa : Addr} {k : Nat} {d : Def} (KX : K.In h) (G : h.Ns mainGlobals mg) (c : He.SaysD T.fa T.fn K) (cx : excB K T.exi = true) (hchk : T.defs.all (fun d => T.chk d && T.kwC d) = true) (hbind : ∀ d ∈ T.defs, BindOk T d)
    (h0 : ∀ f xs L Q Ex, ¬ Φn 0 f xs L Q Ex)
    (hs : ∀ k f xs L Q Ex, Φn (k + 1) f xs L Q Ex → ∃ d, T.get f = some d ∧ xs.length = d.ps.length ∧ bodyK (Φn k) d.N.length d.ir xs L Q Ex)
    (hd : T.get "law" = some d) (hps : d.ps = [("script" : Str)]) (hmg : mg ("law" : Str) = some (.ref fa))
    (hl : ∀ ns : List Int, ns.length ≤ 63 → Φn k "law" [.scr (ns.map .int)] [] (fun x _ => x = .bl true) (fun _ _ => False)) :
    ∃ fd : FuncData, (∀ (s : Shared) (v : Value), BindsTo s fd ⟨[v], []⟩ [("script", v)]) ∧ ∃ sp : Sp, (∀ (H : Hp) (a : Addr) (ns : List Int), ns.length ≤ 63 → Only H → SqL K H a (ns.map V.int) → sp [.ref a] H (fun v _ => v = .bl true) fun _ _ _ => False) ∧
      ∀ base : Heap, K.In base → base.Ns mainGlobals mg → FnOk P w K mg base (L2.CX P w) k fa fd ["script"] sp := by
  have hm := List.mem_of_find?_eq_some hd
  have hn : d.nm = "law" := by simpa using List.find?_some hd
  obtain ⟨fa', fd, ps, e1, e2, F, b1, _⟩ := (table (P := P) (w := w) (base := h) KX G c cx hchk hbind h0 hs k "law" _ _ _ _ (hl [] (by decide))).ok
  have e1 : mg ("law" : Str) = some (.ref fa') := e1
  rw [hmg] at e1
  cases e1
  obtain ⟨fd', FD⟩ := c.defs (d := ⟨(d.nm, none), d.nm, d.nm, d.args, d.body, d.sc, [], []⟩) (List.mem_map.mpr ⟨d, hm, rfl⟩)
  have ega : He.fAd K (d.nm, none) = fa := by
    have q : mg d.nm = some (.ref (He.ga K d.nm)) := He.glo_ok KX G (c.facts (f := .glo d.nm) (List.mem_append_left _ (List.mem_map.mpr ⟨d, hm, rfl⟩)))
    rw [hn] at q
    rw [hmg] at q
    cases q
    show He.ga K d.nm = He.ga K "law"
    rw [hn]
  refine ⟨fd', fun s v => ?_, lSp ⟨P, w, K, mg⟩ (Φn k "law"), fun H a ns h63 hO hS => ?_, fun base hb hg => ?_⟩
  · have := FunD.bindsA (ps := d.ps) FD (fun kV doc pm an cdv ct us hl => (hbind d hm kV doc pm an cdv ct).1 us hl) s [v] (by rw [hps]; rfl)
    rw [hps] at this
    exact this
  · refine ⟨⟨fun _ => 0, []⟩, [], [.scr (ns.map .int)], _, _, repL_nil, .cons ?_ .nil, hl ns h63, fun d' L' v m' H' q st rl r => ?_, fun c L' cls m' H' q => q.elim⟩
    · have rs : ∀ ns : List Int, RepVs ⟨P, w, K, mg⟩ ⟨fun _ => 0, []⟩ [] H (ns.map V.int) (ns.map D.int) := fun ns => by
        induction ns with
        | nil => exact .nil
        | cons n ns ih => exact .cons (.int n) ih
      rcases hS with (hS | ⟨o, hS⟩) | hS
      · rcases hO a with z | ⟨o, xs, z⟩ <;> rw [hS] at z <;> cases z
      · exact .scr hS (rs ns) apart_nil
      · exact .scrK hS (rs ns)
    · subst q
      cases r
      rfl
  · obtain ⟨fa2, fd2, ps2, f1, f2, F2, _⟩ := (table (P := P) (w := w) (base := base) KX G c cx hchk hbind h0 hs k "law" _ _ _ _ (hl [] (by decide))).ok
    have f1 : mg ("law" : Str) = some (.ref fa2) := f1
    rw [hmg] at f1
    cases f1
    cases k with
    | zero => exact absurd (hl [] (by decide)) (h0 _ _ _ _ _)
    | succ k =>
      obtain ⟨hc1, _⟩ := b2 (List.all_eq_true.mp hchk d hm)
      obtain ⟨hcs, S⟩ := scope_of hc1
      rw [ega] at FD
      rw [← hps]
      refine def_ok (ir := d.ir) (Φ := Φn k) FD S rfl hcs ?_ fun xs L Q Ex hq => ?_
      · have hg' : ∀ d ∈ T.defs, mg d.nm = some (.ref (He.ga K d.nm)) ∧ ∃ fd, FunD K d.nm d.nm d.args d.body d.sc [] [] (He.ga K d.nm) fd := fun d hm => by
          refine ⟨He.glo_ok KX G (c.facts (f := .glo d.nm) (List.mem_append_left _ (List.mem_map.mpr ⟨d, hm, rfl⟩))), ?_⟩
          exact c.defs (d := ⟨(d.nm, none), d.nm, d.nm, d.args, d.body, d.sc, [], []⟩) (List.mem_map.mpr ⟨d, hm, rfl⟩)
        exact
        { cst := fun x i e => He.int_ok KX G (c.facts (f := .int x i) (List.mem_append_right _ (List.mem_append_right _ (List.mem_append_left _ (List.mem_map.mpr ⟨(x, i), lookup_pair e, rfl⟩)))))
          blt := fun x hx => He.free_ok KX G (c.facts (f := .free x) (List.mem_append_right _ (List.mem_append_left _ (List.mem_map.mpr ⟨x, hx, rfl⟩))))
          fns := fun f hf => by
            obtain ⟨d', hd', rfl⟩ := List.mem_map.mp hf
            obtain ⟨g1, fd, F⟩ := hg' d' hd'
            exact ⟨_, g1, F.kp⟩
          exs := fun x hx => by
            obtain ⟨e1, e2, e3, e4⟩ := He.exc_ok (c.facts (f := .exc x) (List.mem_append_right _ (List.mem_append_right _ (List.mem_append_right _ (List.mem_append_right _ (List.mem_append_left _ (List.mem_map.mpr ⟨x, hx, rfl⟩)))))))
            exact ⟨_, He.glo_ok KX G (c.facts (f := .glo x) (List.mem_append_right _ (List.mem_append_right _ (List.mem_append_right _ (List.mem_append_left _ (List.mem_map.mpr ⟨x, hx, rfl⟩)))))), e1, e2, e3, e4⟩
          exi := exc_facts cx fun x hx => He.glo_ok KX G (c.facts (f := .glo x) (List.mem_append_right _ (List.mem_append_right _ (List.mem_append_right _ (List.mem_append_right _ (List.mem_append_right _ (List.mem_map.mpr ⟨x, hx, rfl⟩)))))))
          call := fun f xs L Q Ex hq => table KX G c cx hchk hbind h0 hs k f xs L Q Ex hq }
      · obtain ⟨d', hd', h1, h2⟩ := hs k _ xs L Q Ex hq
        rw [hd] at hd'
        cases hd'
        exact ⟨h1, h2⟩
end
end Nr

/-! The contracts' kit: how the small language runs on data that are known. -/
namespace Nr
open PySem PySem.Spec PyProof.Rows L2
theorem ev_truth (L : Hl) (Q : Bool → Prop) : (∀ b, truthK L (.bl b) Q = Q b) ∧ (∀ i, truthK L (.int i) Q = Q (i != 0)) ∧ truthK L .non Q = Q false := by
  refine ⟨fun b => ?_, fun i => ?_, ?_⟩ <;> simp [truthK, truthV, res]
theorem ev_res (L : Hl) : res L .non = .non ∧ (∀ b, res L (.bl b) = .bl b) ∧ (∀ i, res L (.int i) = .int i) ∧ (∀ x, res L (.str x) = .str x) ∧ (∀ xs, res L (.tup xs) = .tup xs) ∧ (∀ xs, res L (.lst xs) = .lst xs) ∧ (∀ xs, res L (.scr xs) = .scr xs) ∧ (∀ t ks vs, res L (.dct t ks vs) = .dct t ks vs) := by
  refine ⟨rfl, fun _ => rfl, fun _ => rfl, fun _ => rfl, fun _ => rfl, fun _ => rfl, fun _ => rfl, fun _ _ _ => rfl⟩
theorem res_at {L : Hl} {n : Nat} {xs : List D} (h : L[n]? = some (.lst xs)) : res L (.obj n) = .lst xs := by simp [res, h]
theorem ev_bin (L : Hl) (Q : D → Prop) (i j : Int) : binK .add L (.int i) (.int j) Q = Q (.int (i + j)) ∧ binK .sub L (.int i) (.int j) Q = Q (.int (i - j)) ∧ binK .mul L (.int i) (.int j) Q = (mulOk i j ∧ Q (.int (i * j))) ∧
    binK .mod L (.int i) (.int j) Q = (0 < j ∧ Q (.int (i % j))) ∧ binK .fdiv L (.int i) (.int j) Q = (CDivW i j ∧ Q (.int (i / j))) ∧ binK .pow L (.int i) (.int j) Q = (powC i j ∧ Q (.int (i ^ j.toNat))) := by
  refine ⟨rfl, ?_, rfl, rfl, rfl, rfl⟩
  show (True ∧ Q (.int (i - j))) = _
  rw [true_and]
theorem ev_cmp (L : Hl) (Q : D → Prop) (i j : Int) : cmpK .lt L (.int i) (.int j) Q = Q (.bl (decide (i < j))) ∧ cmpK .le L (.int i) (.int j) Q = Q (.bl (decide (i ≤ j))) ∧ cmpK .gt L (.int i) (.int j) Q = Q (.bl (decide (j < i))) ∧ cmpK .ge L (.int i) (.int j) Q = Q (.bl (decide (j ≤ i))) ∧
    cmpK .eq L (.int i) (.int j) Q = Q (.bl (decide (i = j))) ∧ cmpK .ne L (.int i) (.int j) Q = Q (.bl (!decide (i = j))) := by
  have e : (i == j) = decide (i = j) := by by_cases h : i = j <;> simp [h]
  refine ⟨rfl, rfl, rfl, rfl, ?_, ?_⟩ <;> simp [cmpK, plain, res, deq, toP, PyData.eqv, e]
theorem ev_is (L : Hl) (Q : D → Prop) (x : D) : cmpK .is L x .non Q = Q (.bl (isNon x)) ∧ cmpK .isnot L x .non Q = Q (.bl (!isNon x)) ∧ (∀ a b, cmpK .is L (.bl a) (.bl b) Q = Q (.bl (a == b))) ∧ (∀ a b, cmpK .isnot L (.bl a) (.bl b) Q = Q (.bl (!(a == b)))) := ⟨rfl, rfl, fun _ _ => rfl, fun _ _ => rfl⟩
theorem ev_bl_if (Q R : Prop) (b : Bool) : (match (D.bl b) with
    | .bl true => Q
    | .bl false => R
    | _ => False) = (if b = true then Q else R) := by cases b <;> rfl
theorem ev_ty {L : Hl} {x : D} {n : Tn} (h : tnOf L x = some n) (Q : Bool → Prop) : isTy .int L x Q = Q (tnIs .int n) ∧ isTy .bool L x Q = Q (tnIs .bool n) ∧ isTy .str L x Q = Q (tnIs .str n) ∧ isTy .tuple L x Q = Q (tnIs .tuple n) ∧ isTy .list L x Q = Q (tnIs .list n) ∧ isTy .dict L x Q = Q (tnIs .dict n) ∧ isTy .seq L x Q = Q (tnIs .seq n) := by
  refine ⟨?_, ?_, ?_, ?_, ?_, ?_, ?_⟩ <;> simp [isTy, h]
theorem atI_nat {α : Type} {xs : List α} {k : Nat} (h : k < xs.length) : atI xs (k : Int) = xs[k]? := by
  unfold atI ixN
  rw [if_pos (by omega), if_pos (by omega)]
  rfl
/-- the end of a def: as it stands -/
theorem fin_same {L L' : Hl} {Q : QE} {d : D} (h : Q d L') : Fin L Q d L' := ⟨d, L', .same d, h⟩
theorem finX_same {L L' : Hl} {E : XH} {c : Str} {ds : Ds} (h : E c L') : FinX L E c ds L' := ⟨L', .same .non, h⟩
theorem set_len {L : Hl} {n : Nat} {o : O} : (L.set n o).length = L.length := List.length_set
/-- the end of a def: one object changed, new ones forgotten -/
theorem fin_cut {L R : Hl} {Q : QE} {d : D} {n : Nat} {o : O} (hd : nonum d = true) (ho : o.nonum = true) (h : Q d (L.set n o)) : Fin L Q d (L.set n o ++ R) := by
  refine ⟨d, L.set n o, .cut hd ?_ set_len (fun i u e => ?_), h⟩
  · rw [List.drop_left' set_len]
  · by_cases hi : n = i
    · subst hi
      rw [List.getElem?_set] at e
      simp at e
      obtain ⟨_, rfl⟩ := e
      exact .inr ho
    · rw [List.getElem?_set_ne hi] at e
      exact .inl e
theorem fin_cut0 {L R : Hl} {Q : QE} {d : D} (hd : nonum d = true) (h : Q d L) : Fin L Q d (L ++ R) := by
  refine ⟨d, L, .cut hd ?_ rfl (fun i u e => .inl e), h⟩
  rw [List.drop_left' rfl]
/-! ### loops -/
theorem forR_nil {s : Src} {t : D → DN → Ds → Hl → Prop} {N : DN} {ds : Ds} {L : Hl} (ok : s.ok L) (h : N.nx ds L) : forR s t N [] ds L := ⟨ok, h⟩
/-- an invariant on what is behind, no return, no break -/
theorem forR_inv {t : D → DN → Ds → Hl → Prop} {N : DN} (I : Nat → Ds → Hl → Prop) (items all : List D) (s : Src) : ∀ (k : Nat) (ds : Ds) (L : Hl), I k ds L → (∀ (i : Nat) (x : D) (ds : Ds) (L : Hl), items[i]? = some x → I (k + i) ds L → s.ok L ∧ ∀ M : DN, (∀ ds' L', I (k + i + 1) ds' L' → M.nx ds' L') → M.rt = N.rt → t x M ds L) → (∀ ds L, I (k + items.length) ds L → s.ok L ∧ N.nx ds L) → forR s t N items ds L := by
  induction items with
  | nil => exact fun k ds L h _ hd => hd ds L h
  | cons x xs ih =>
    intro k ds L h hs hd
    obtain ⟨ok, h1⟩ := hs 0 x ds L rfl h
    refine ⟨ok, h1 _ (fun ds' L' h' => ?_) rfl⟩
    refine ih (k + 1) ds' L' h' (fun i y ds L hy hi => ?_) (fun ds L hi => ?_)
    · have := hs (i + 1) y ds L (by simpa using hy) (by rw [show k + (i + 1) = k + 1 + i by omega]; exact hi)
      rw [show k + (i + 1) + 1 = k + 1 + i + 1 by omega] at this
      exact this
    · exact hd ds L (by rw [show k + (x :: xs).length = k + 1 + xs.length by simp; omega]; exact hi)
/-- a comprehension without tests whose element leaves the heap -/
theorem lcR_map {s : Src} {t : D → Hl → (Option D → Hl → Prop) → Prop} {Q : List D → Hl → Prop} {L : Hl} (f : D → D) (hok : s.ok L) : ∀ (items acc : List D), (acc.length + items.length ≤ sizeLine) → (∀ x ∈ items, ∀ k : Option D → Hl → Prop, k (some (f x)) L → t x L k) → Q (acc ++ items.map f) L → lcR s t Q items acc L
  | [], acc, _, _, h => ⟨hok, by simpa using h⟩
  | x :: xs, acc, hl, ht, h => by
    simp at hl
    refine ⟨hok, ht x List.mem_cons_self _ ⟨by omega, lcR_map f hok xs (acc ++ [f x]) (by simp; omega) (fun y hy => ht y (List.mem_cons_of_mem _ hy)) (by simpa using h)⟩⟩
/-- .. with tests -/
theorem lcR_filter {s : Src} {t : D → Hl → (Option D → Hl → Prop) → Prop} {Q : List D → Hl → Prop} {L : Hl} (f : D → Option D) (hok : s.ok L) : ∀ (items acc : List D), (acc.length + items.length ≤ sizeLine) → (∀ x ∈ items, ∀ k : Option D → Hl → Prop, k (f x) L → t x L k) → Q (acc ++ items.filterMap f) L → lcR s t Q items acc L
  | [], acc, _, _, h => ⟨hok, by simpa using h⟩
  | x :: xs, acc, hl, ht, h => by
    simp at hl
    refine ⟨hok, ht x List.mem_cons_self _ ?_⟩
    cases e : f x with
    | none =>
      rw [List.filterMap_cons, e] at h
      exact lcR_filter f hok xs acc (by omega) (fun y hy => ht y (List.mem_cons_of_mem _ hy)) h
    | some z =>
      rw [List.filterMap_cons, e] at h
      exact ⟨by omega, lcR_filter f hok xs (acc ++ [z]) (by simp; omega) (fun y hy => ht y (List.mem_cons_of_mem _ hy)) (by simpa using h)⟩
end Nr

/-! The pieces of the small language that many laws share (printed by mkP0.py). -/
namespace P
open PySem Nr
def iris_integer : ISs := (.cons (.ret (.and (.cons (.isi (.var 0) .int) (.cons (.not (.isi (.var 0) .bool)) (.cons (.chain .le .le (.var 1) (.var 0) (.var 2)) .nil))))) .nil)
def iris_row_unlike : ISs := (.cons (.ite (.or (.cons (.not (.isi (.var 0) .tuple)) (.cons (.not (.bi .all (.cons (.frz (.lc [3] (.call "is_integer" (.cons (.var 3) (.cons (.var 1) (.cons (.var 2) .nil)))) (.n 3) (.seq (.var 0)) .nil)) .nil))) .nil))) (.cons (.ret (.bl false)) .nil) .nil) (.cons (.ret (.cmp .eq (.bi .len (.cons (.frzd (.dc false [3] (.var 3) (.bl true) (.n 3) (.seq (.var 0)) .nil)) .nil)) (.bi .len (.cons (.var 0) .nil)))) .nil))
def iris_turning_form : ISs := (.cons (.ret (.and (.cons (.call "is_row_unlike" (.cons (.var 0) (.cons (.int 0) (.cons (.bin .sub (.var 1) (.int 1)) .nil)))) (.cons (.cmp .eq (.bi .len (.cons (.var 0) .nil)) (.var 1)) .nil)))) .nil)
def irneed_turning : ISs := (.cons (.ite (.or (.cons (.not (.isi (.var 0) .tuple)) (.cons (.cmp .gt (.bi .len (.cons (.var 0) .nil)) (.gint "MOST_PLACES" 6)) (.cons (.not (.call "is_turning_form" (.cons (.var 0) (.cons (.bi .len (.cons (.var 0) .nil)) .nil)))) .nil)))) (.cons (.raise "BadTurning") .nil) .nil) .nil)
def irturned_by : ISs := (.cons (.ret (.bi .tuple (.cons (.frz (.lc [2] (.idx (.var 1) (.var 2)) (.n 2) (.seq (.var 0)) .nil)) .nil))) .nil)
def irback_by : ISs := (.cons (.asg (.n 1) (.newl (.rep (.frz (.disp (.cons (.int 0) .nil))) (.bi .len (.cons (.var 0) .nil))))) (.cons (.for_ (.t (.cons (.n 2) (.cons (.n 3) .nil))) (.enum (.var 0)) (.cons (.seti (.var 1) (.var 3) (.var 2)) .nil)) (.cons (.ret (.bi .tuple (.cons (.var 1) .nil))) .nil)))
def irturned : ISs := (.cons (.expr (.call "need_turning" (.cons (.var 0) .nil))) (.cons (.ite (.or (.cons (.not (.isi (.var 1) .tuple)) (.cons (.cmp .ne (.bi .len (.cons (.var 1) .nil)) (.bi .len (.cons (.var 0) .nil))) .nil))) (.cons (.raise "BadRow") .nil) .nil) (.cons (.ret (.call "turned_by" (.cons (.var 0) (.cons (.var 1) .nil)))) .nil)))
def irafter : ISs := (.cons (.expr (.call "need_turning" (.cons (.var 0) .nil))) (.cons (.ite (.not (.call "is_turning_form" (.cons (.var 1) (.cons (.bi .len (.cons (.var 0) .nil)) .nil)))) (.cons (.raise "BadTurning") .nil) .nil) (.cons (.ret (.call "turned_by" (.cons (.var 0) (.cons (.var 1) .nil)))) .nil)))
def irback : ISs := (.cons (.expr (.call "need_turning" (.cons (.var 0) .nil))) (.cons (.ret (.call "back_by" (.cons (.var 0) .nil))) .nil))
def irstill : ISs := (.cons (.ret (.tupr (.one (.var 0)))) .nil)
def irall_turnings : ISs := (.cons (.asg (.n 1) (.frz (.disp (.cons (.tup .nil) .nil)))) (.cons (.for_ (.n 2) (.rng (.one (.var 0))) (.cons (.asg (.n 1) (.frz (.lc2 [3, 4] [4] (.bin .add (.var 3) (.tup (.cons (.var 4) .nil))) (.n 3) (.seq (.var 1)) .nil (.n 4) (.rng (.one (.var 0))) (.cons (.cmp .notin (.var 4) (.var 3)) .nil)))) .nil)) (.cons (.ret (.var 1)) .nil)))
def irneed_number : ISs := (.cons (.ite (.not (.call "is_integer" (.cons (.var 0) (.cons (.var 1) (.cons (.var 2) .nil))))) (.cons (.raise "BadNumber") .nil) .nil) .nil)
def iris_group_form : ISs := (.cons (.ite (.or (.cons (.not (.isi (.var 1) .tuple)) (.cons (.not (.chain .le .le (.int 1) (.bi .len (.cons (.var 1) .nil)) (.gint "MOST_TURNINGS" 120))) .nil))) (.cons (.ret (.bl false)) .nil) .nil) (.cons (.ite (.or (.cons (.not (.bi .all (.cons (.frz (.lc [3] (.call "is_turning_form" (.cons (.var 3) (.cons (.var 0) .nil))) (.n 3) (.seq (.var 1)) .nil)) .nil))) (.cons (.cmp .ne (.idx (.var 1) (.int 0)) (.call "still" (.cons (.var 0) .nil))) .nil))) (.cons (.ret (.bl false)) .nil) .nil) (.cons (.ite (.not (.bi .all (.cons (.frz (.lc [3, 4] (.cmp .lt (.var 3) (.var 4)) (.t (.cons (.n 3) (.cons (.n 4) .nil))) (.zip (.var 1) (.slc (.var 1) (.int 1) .omit)) .nil)) .nil))) (.cons (.ret (.bl false)) .nil) .nil) (.cons (.asg (.n 2) (.frzd (.dc true [3] (.var 3) (.bl true) (.n 3) (.seq (.var 1)) .nil))) (.cons (.ret (.bi .all (.cons (.frz (.lc2 [3, 4] [4] (.cmp .isin (.call "turned_by" (.cons (.var 3) (.cons (.var 4) .nil))) (.var 2)) (.n 3) (.seq (.var 1)) .nil (.n 4) (.seq (.var 1)) .nil)) .nil))) .nil)))))
def irneed_group : ISs := (.cons (.ite (.not (.call "is_group_form" (.cons (.var 0) (.cons (.var 1) .nil)))) (.cons (.raise "BadGroup") .nil) .nil) .nil)
def irneed_row : ISs := (.cons (.ite (.or (.cons (.not (.isi (.var 0) .tuple)) (.cons (.cmp .ne (.bi .len (.cons (.var 0) .nil)) (.var 1)) .nil))) (.cons (.raise "BadRow") .nil) .nil) (.cons (.ite (.not (.bi .all (.cons (.frz (.lc [2] (.and (.cons (.isi (.var 2) .int) (.cons (.not (.isi (.var 2) .bool)) .nil))) (.n 2) (.seq (.var 0)) .nil)) .nil))) (.cons (.raise "BadRow") .nil) .nil) .nil))
def irleast_row : ISs := (.cons (.ret (.bi .min1 (.cons (.frz (.lc [2] (.call "turned_by" (.cons (.var 2) (.cons (.var 1) .nil))) (.n 2) (.seq (.var 0)) .nil)) .nil))) .nil)
def irkeeping_row : ISs := (.cons (.ret (.bi .tuple (.cons (.frz (.lc [2] (.var 2) (.n 2) (.seq (.var 0)) (.cons (.cmp .eq (.call "turned_by" (.cons (.var 2) (.cons (.var 1) .nil))) (.var 1)) .nil))) .nil))) .nil)
def irled : ISs := (.cons (.asg (.n 2) (.call "back_by" (.cons (.var 1) .nil))) (.cons (.ret (.bi .tuple (.cons (.frz (.sorted (.frz (.lc [3] (.call "turned_by" (.cons (.var 1) (.cons (.call "turned_by" (.cons (.var 3) (.cons (.var 2) .nil))) .nil))) (.n 3) (.seq (.var 0)) .nil)))) .nil))) .nil))
def irleads_of : ISs := (.cons (.ite (.cmp .ne (.bi .len (.cons (.var 1) .nil)) (.bi .len (.cons (.var 2) .nil))) (.cons (.ret (.frz (.disp .nil))) .nil) .nil) (.cons (.ret (.frz (.lc [3] (.var 3) (.n 3) (.seq (.call "all_turnings" (.cons (.var 0) .nil))) (.cons (.cmp .eq (.call "led" (.cons (.var 1) (.cons (.var 3) .nil))) (.var 2)) .nil)))) .nil))
def iris_many : ISs := (.cons (.ret (.call "is_integer" (.cons (.var 0) (.cons (.int 0) (.cons (.int 6) .nil))))) .nil)
def iris_group : ISs := (.cons (.expr (.call "need_number" (.cons (.var 0) (.cons (.int 0) (.cons (.gint "MOST_PLACES" 6) .nil))))) (.cons (.ret (.call "is_group_form" (.cons (.var 0) (.cons (.var 1) .nil)))) .nil))
def irleads : ISs := (.cons (.expr (.call "need_number" (.cons (.var 0) (.cons (.int 0) (.cons (.gint "MOST_PLACES" 6) .nil))))) (.cons (.expr (.call "need_group" (.cons (.var 0) (.cons (.var 1) .nil)))) (.cons (.expr (.call "need_group" (.cons (.var 0) (.cons (.var 2) .nil)))) (.cons (.ret (.call "leads_of" (.cons (.var 0) (.cons (.var 1) (.cons (.var 2) .nil))))) .nil))))
def irkeeping : ISs := (.cons (.expr (.call "need_number" (.cons (.var 0) (.cons (.int 0) (.cons (.gint "MOST_PLACES" 6) .nil))))) (.cons (.expr (.call "need_group" (.cons (.var 0) (.cons (.var 1) .nil)))) (.cons (.expr (.call "need_row" (.cons (.var 2) (.cons (.var 0) .nil)))) (.cons (.ret (.call "keeping_row" (.cons (.var 1) (.cons (.var 2) .nil)))) .nil))))
def irleast_turned : ISs := (.cons (.expr (.call "need_number" (.cons (.var 0) (.cons (.int 0) (.cons (.gint "MOST_PLACES" 6) .nil))))) (.cons (.expr (.call "need_group" (.cons (.var 0) (.cons (.var 1) .nil)))) (.cons (.expr (.call "need_row" (.cons (.var 2) (.cons (.var 0) .nil)))) (.cons (.ret (.call "least_row" (.cons (.var 1) (.cons (.var 2) .nil)))) .nil))))
def iris_kind_form : ISs := (.cons (.ite (.or (.cons (.not (.isi (.var 0) .tuple)) (.cons (.cmp .ne (.bi .len (.cons (.var 0) .nil)) (.int 2)) (.cons (.not (.call "is_many" (.cons (.idx (.var 0) (.int 0)) .nil))) .nil)))) (.cons (.ret (.bl false)) .nil) .nil) (.cons (.ret (.call "is_group_form" (.cons (.idx (.var 0) (.int 0)) (.cons (.idx (.var 0) (.int 1)) .nil)))) .nil))
def iris_set_form : ISs := (.cons (.ite (.or (.cons (.not (.isi (.var 0) .tuple)) (.cons (.cmp .gt (.bi .len (.cons (.var 0) .nil)) (.gint "MOST_KINDS" 300)) .nil))) (.cons (.ret (.bl false)) .nil) .nil) (.cons (.ret (.bi .all (.cons (.frz (.lc [1] (.call "is_kind_form" (.cons (.var 1) .nil)) (.n 1) (.seq (.var 0)) .nil)) .nil))) .nil))
def irneed_set : ISs := (.cons (.ite (.not (.call "is_set_form" (.cons (.var 0) .nil))) (.cons (.raise "BadSet") .nil) .nil) .nil)
def iris_thing_form : ISs := (.cons (.ite (.or (.cons (.not (.isi (.var 1) .tuple)) (.cons (.cmp .ne (.bi .len (.cons (.var 1) .nil)) (.int 2)) (.cons (.not (.call "is_integer" (.cons (.idx (.var 1) (.int 0)) (.cons (.int 0) (.cons (.bin .sub (.bi .len (.cons (.var 0) .nil)) (.int 1)) .nil))))) .nil)))) (.cons (.ret (.bl false)) .nil) .nil) (.cons (.asg (.t (.cons (.n 2) (.cons (.n 3) .nil))) (.idx (.var 0) (.idx (.var 1) (.int 0)))) (.cons (.ite (.or (.cons (.not (.call "is_row_unlike" (.cons (.idx (.var 1) (.int 1)) (.cons (.int 0) (.cons (.gint "LAST_NAME" 999999) .nil))))) (.cons (.cmp .ne (.bi .len (.cons (.idx (.var 1) (.int 1)) .nil)) (.var 2)) .nil))) (.cons (.ret (.bl false)) .nil) .nil) (.cons (.ret (.cmp .eq (.call "least_row" (.cons (.var 3) (.cons (.idx (.var 1) (.int 1)) .nil))) (.idx (.var 1) (.int 1)))) .nil))))
def irneed_thing : ISs := (.cons (.ite (.not (.call "is_thing_form" (.cons (.var 0) (.cons (.var 1) .nil)))) (.cons (.raise "BadThing") .nil) .nil) .nil)
def irneed_index : ISs := (.cons (.ite (.not (.call "is_integer" (.cons (.var 1) (.cons (.int 0) (.cons (.bin .sub (.bi .len (.cons (.var 0) .nil)) (.int 1)) .nil))))) (.cons (.raise "BadIndex") .nil) .nil) .nil)
def irtold : ISs := (.cons (.ret (.tup (.cons (.var 1) (.cons (.call "least_row" (.cons (.idx (.idx (.var 0) (.var 1)) (.int 1)) (.cons (.var 2) .nil))) .nil)))) .nil)
def irthings_below : ISs := (.cons (.asg (.n 2) (.int 1)) (.cons (.for_ (.n 3) (.rng (.one (.idx (.var 0) (.int 0)))) (.cons (.asg (.n 2) (.bin .mul (.var 2) (.bi .max (.cons (.int 0) (.cons (.bin .sub (.var 1) (.var 3)) .nil))))) .nil)) (.cons (.ret (.bin .fdiv (.var 2) (.bi .len (.cons (.idx (.var 0) (.int 1)) .nil)))) .nil)))
def irneed_told_set : ISs := (.cons (.ite (.or (.cons (.cmp .gt (.bi .len (.cons (.var 0) .nil)) (.gint "MOST_KINDS" 300)) (.cons (.not (.bi .all (.cons (.frz (.lc [1, 2] (.and (.cons (.cmp .le (.var 1) (.int 6)) (.cons (.cmp .le (.bi .len (.cons (.var 2) .nil)) (.int 120)) .nil))) (.t (.cons (.n 1) (.cons (.n 2) .nil))) (.seq (.var 0)) .nil)) .nil))) .nil))) (.cons (.raise "TooGreat") .nil) .nil) .nil)
def irare_paired : ISs := (.cons (.ite (.cmp .ne (.bi .len (.cons (.var 0) .nil)) (.bi .len (.cons (.var 1) .nil))) (.cons (.ret (.bl false)) .nil) .nil) (.cons (.asg (.n 2) (.newl (.of (.var 1)))) (.cons (.for_ (.t (.cons (.n 3) (.cons (.n 4) .nil))) (.seq (.var 0)) (.cons (.asg (.n 5) (.frz (.lc [6, 7] (.var 6) (.t (.cons (.n 6) (.cons (.n 7) .nil))) (.enum (.var 2)) (.cons (.and (.cons (.cmp .eq (.idx (.var 7) (.int 0)) (.var 3)) (.cons (.cmp .ne (.call "leads_of" (.cons (.var 3) (.cons (.var 4) (.cons (.idx (.var 7) (.int 1)) .nil)))) (.frz (.disp .nil))) .nil))) .nil)))) (.cons (.ite (.cmp .eq (.var 5) (.frz (.disp .nil))) (.cons (.ret (.bl false)) .nil) .nil) (.cons (.expr (.meth .pop (.var 2) (.cons (.idx (.var 5) (.int 0)) .nil))) .nil)))) (.cons (.ret (.bl true)) .nil))))
def irneed_part : ISs := (.cons (.asg (.n 2) (.and (.cons (.isi (.var 1) .tuple) (.cons (.bi .all (.cons (.frz (.lc [3] (.call "is_integer" (.cons (.var 3) (.cons (.int 0) (.cons (.bin .sub (.bi .len (.cons (.var 0) .nil)) (.int 1)) .nil)))) (.n 3) (.seq (.var 1)) .nil)) .nil)) .nil)))) (.cons (.ite (.or (.cons (.not (.var 2)) (.cons (.not (.bi .all (.cons (.frz (.lc [4, 5] (.cmp .lt (.var 4) (.var 5)) (.t (.cons (.n 4) (.cons (.n 5) .nil))) (.zip (.var 1) (.slc (.var 1) (.int 1) .omit)) .nil)) .nil))) .nil))) (.cons (.raise "BadPart") .nil) .nil) .nil))
def iris_set : ISs := (.cons (.ret (.call "is_set_form" (.cons (.var 0) .nil))) .nil)
def iris_thing : ISs := (.cons (.expr (.call "need_set" (.cons (.var 0) .nil))) (.cons (.ret (.call "is_thing_form" (.cons (.var 0) (.cons (.var 1) .nil)))) .nil))
def irthing_of : ISs := (.cons (.expr (.call "need_set" (.cons (.var 0) .nil))) (.cons (.expr (.call "need_index" (.cons (.var 0) (.cons (.var 1) .nil)))) (.cons (.ite (.or (.cons (.not (.call "is_row_unlike" (.cons (.var 2) (.cons (.int 0) (.cons (.gint "LAST_NAME" 999999) .nil))))) (.cons (.cmp .ne (.bi .len (.cons (.var 2) .nil)) (.idx (.idx (.var 0) (.var 1)) (.int 0))) .nil))) (.cons (.raise "BadNames") .nil) .nil) (.cons (.ret (.call "told" (.cons (.var 0) (.cons (.var 1) (.cons (.var 2) .nil))))) .nil))))
def irnames_of : ISs := (.cons (.expr (.call "need_set" (.cons (.var 0) .nil))) (.cons (.expr (.call "need_thing" (.cons (.var 0) (.cons (.var 1) .nil)))) (.cons (.ret (.bi .tuple (.cons (.frz (.sorted (.idx (.var 1) (.int 1)))) .nil))) .nil)))
def ircounted : ISs := (.cons (.expr (.call "need_set" (.cons (.var 0) .nil))) (.cons (.expr (.call "need_number" (.cons (.var 1) (.cons (.int 0) (.cons (.gint "LAST_NAME" 999999) .nil))))) (.cons (.ret (.bi .sum (.cons (.frz (.lc [2] (.call "things_below" (.cons (.var 2) (.cons (.var 1) .nil))) (.n 2) (.seq (.var 0)) .nil)) .nil))) .nil)))
def irare_alike : ISs := (.cons (.expr (.call "need_set" (.cons (.var 0) .nil))) (.cons (.expr (.call "need_set" (.cons (.var 1) .nil))) (.cons (.ret (.call "are_paired" (.cons (.var 0) (.cons (.var 1) .nil)))) .nil)))
def irpart_of : ISs := (.cons (.expr (.call "need_set" (.cons (.var 0) .nil))) (.cons (.expr (.call "need_part" (.cons (.var 0) (.cons (.var 1) .nil)))) (.cons (.asg (.n 2) (.bi .tuple (.cons (.frz (.lc [3] (.idx (.var 0) (.var 3)) (.n 3) (.seq (.var 1)) .nil)) .nil))) (.cons (.ret (.tup (.cons (.var 2) (.cons (.bi .tuple (.cons (.frz (.lc [3] (.tup (.cons (.var 3) (.cons (.call "same_places" (.cons (.idx (.var 0) (.var 3)) .nil)) .nil))) (.n 3) (.seq (.var 1)) .nil)) .nil)) .nil)))) .nil))))
def irset_beside : ISs := (.cons (.expr (.call "need_set" (.cons (.var 0) .nil))) (.cons (.expr (.call "need_set" (.cons (.var 1) .nil))) (.cons (.asg (.n 2) (.bin .add (.var 0) (.var 1))) (.cons (.expr (.call "need_told_set" (.cons (.var 2) .nil))) (.cons (.asg (.n 3) (.bi .tuple (.cons (.frz (.lc [5, 6] (.tup (.cons (.var 5) (.cons (.call "same_places" (.cons (.var 6) .nil)) .nil))) (.t (.cons (.n 5) (.cons (.n 6) .nil))) (.enum (.var 0)) .nil)) .nil))) (.cons (.asg (.n 4) (.bi .tuple (.cons (.frz (.lc [5, 6] (.tup (.cons (.bin .add (.bi .len (.cons (.var 0) .nil)) (.var 5)) (.cons (.call "same_places" (.cons (.var 6) .nil)) .nil))) (.t (.cons (.n 5) (.cons (.n 6) .nil))) (.enum (.var 1)) .nil)) .nil))) (.cons (.ret (.tup (.cons (.var 2) (.cons (.var 3) (.cons (.var 4) .nil))))) .nil)))))))
def irsame_places : ISs := (.cons (.ret (.tupr (.one (.idx (.var 0) (.int 0))))) .nil)
def iris_row_form : ISs := (.cons (.ite (.or (.cons (.not (.isi (.var 2) .tuple)) (.cons (.cmp .ne (.bi .len (.cons (.var 2) .nil)) (.int 2)) (.cons (.not (.call "is_integer" (.cons (.idx (.var 2) (.int 0)) (.cons (.int 0) (.cons (.bin .sub (.bi .len (.cons (.var 1) .nil)) (.int 1)) .nil))))) .nil)))) (.cons (.ret (.bl false)) .nil) .nil) (.cons (.ret (.and (.cons (.call "is_row_unlike" (.cons (.idx (.var 2) (.int 1)) (.cons (.int 0) (.cons (.bin .sub (.idx (.var 0) (.int 0)) (.int 1)) .nil)))) (.cons (.cmp .eq (.bi .len (.cons (.idx (.var 2) (.int 1)) .nil)) (.idx (.idx (.var 1) (.idx (.var 2) (.int 0))) (.int 0))) .nil)))) .nil))
def iris_row_steady : ISs := (.cons (.asg (.n 3) (.call "least_row" (.cons (.idx (.var 1) (.int 1)) (.cons (.var 2) .nil)))) (.cons (.ret (.bi .all (.cons (.frz (.lc [4] (.cmp .eq (.call "least_row" (.cons (.idx (.var 1) (.int 1)) (.cons (.bi .tuple (.cons (.frz (.lc [5] (.idx (.var 4) (.var 5)) (.n 5) (.seq (.var 2)) .nil)) .nil)) .nil))) (.var 3)) (.n 4) (.seq (.idx (.var 0) (.int 1))) .nil)) .nil))) .nil))
def iris_rows_form : ISs := (.cons (.ite (.or (.cons (.not (.isi (.var 2) .tuple)) (.cons (.cmp .ne (.bi .len (.cons (.var 2) .nil)) (.bi .len (.cons (.var 0) .nil))) .nil))) (.cons (.ret (.bl false)) .nil) .nil) (.cons (.ret (.bi .all (.cons (.frz (.lc [3, 4] (.call "is_row_form" (.cons (.var 3) (.cons (.var 1) (.cons (.var 4) .nil)))) (.t (.cons (.n 3) (.cons (.n 4) .nil))) (.zip (.var 0) (.var 2)) .nil)) .nil))) .nil))
def iris_map_form : ISs := (.cons (.ite (.not (.call "is_rows_form" (.cons (.var 0) (.cons (.var 1) (.cons (.var 2) .nil))))) (.cons (.ret (.bl false)) .nil) .nil) (.cons (.for_ (.t (.cons (.n 3) (.cons (.t (.cons (.n 4) (.cons (.n 5) .nil))) .nil))) (.zip (.var 0) (.var 2)) (.cons (.ite (.or (.cons (.cmp .ne (.call "least_row" (.cons (.idx (.idx (.var 1) (.var 4)) (.int 1)) (.cons (.var 5) .nil))) (.var 5)) (.cons (.not (.call "is_row_steady" (.cons (.var 3) (.cons (.idx (.var 1) (.var 4)) (.cons (.var 5) .nil))))) .nil))) (.cons (.ret (.bl false)) .nil) .nil) .nil)) (.cons (.ret (.bl true)) .nil)))
def irneed_map : ISs := (.cons (.ite (.not (.call "is_map_form" (.cons (.var 0) (.cons (.var 1) (.cons (.var 2) .nil))))) (.cons (.raise "BadMap") .nil) .nil) .nil)
def irmade_of : ISs := (.cons (.asg (.t (.cons (.n 3) (.cons (.n 4) .nil))) (.idx (.var 1) (.idx (.var 2) (.int 0)))) (.cons (.ret (.call "told" (.cons (.var 0) (.cons (.var 3) (.cons (.call "turned_by" (.cons (.var 4) (.cons (.idx (.var 2) (.int 1)) .nil))) .nil))))) .nil))
def ircomposed_by : ISs := (.cons (.asg (.n 3) (.newl (.disp .nil))) (.cons (.for_ (.t (.cons (.n 4) (.cons (.n 5) .nil))) (.seq (.var 1)) (.cons (.asg (.t (.cons (.n 6) (.cons (.n 7) .nil))) (.idx (.var 2) (.var 4))) (.cons (.expr (.meth .append (.var 3) (.cons (.tup (.cons (.var 6) (.cons (.call "least_row" (.cons (.idx (.idx (.var 0) (.var 6)) (.int 1)) (.cons (.call "turned_by" (.cons (.var 7) (.cons (.var 5) .nil))) .nil))) .nil))) .nil))) .nil))) (.cons (.ret (.bi .tuple (.cons (.var 3) .nil))) .nil)))
def iris_one_to_one : ISs := (.cons (.expr (.call "need_set" (.cons (.var 0) .nil))) (.cons (.expr (.call "need_set" (.cons (.var 1) .nil))) (.cons (.expr (.call "need_map" (.cons (.var 0) (.cons (.var 1) (.cons (.var 2) .nil))))) (.cons (.ret (.call "keeps_unlike" (.cons (.var 0) (.cons (.var 1) (.cons (.var 2) .nil))))) .nil))))
def irimage : ISs := (.cons (.expr (.call "need_set" (.cons (.var 0) .nil))) (.cons (.expr (.call "need_set" (.cons (.var 1) .nil))) (.cons (.expr (.call "need_map" (.cons (.var 0) (.cons (.var 1) (.cons (.var 2) .nil))))) (.cons (.ret (.bi .tuple (.cons (.frz (.sorted (.frzd (.dc false [3, 4] (.var 3) (.bl true) (.t (.cons (.n 3) (.cons (.n 4) .nil))) (.seq (.var 2)) .nil)))) .nil))) .nil))))
def irsame_map : ISs := (.cons (.expr (.call "need_set" (.cons (.var 0) .nil))) (.cons (.ret (.bi .tuple (.cons (.frz (.lc [1, 2] (.tup (.cons (.var 1) (.cons (.call "same_places" (.cons (.var 2) .nil)) .nil))) (.t (.cons (.n 1) (.cons (.n 2) .nil))) (.enum (.var 0)) .nil)) .nil))) .nil))
def irapplied : ISs := (.cons (.expr (.call "need_set" (.cons (.var 0) .nil))) (.cons (.expr (.call "need_set" (.cons (.var 1) .nil))) (.cons (.expr (.call "need_map" (.cons (.var 0) (.cons (.var 1) (.cons (.var 2) .nil))))) (.cons (.expr (.call "need_thing" (.cons (.var 0) (.cons (.var 3) .nil)))) (.cons (.ret (.call "made_of" (.cons (.var 1) (.cons (.var 2) (.cons (.var 3) .nil))))) .nil)))))
def ircomposed : ISs := (.cons (.expr (.call "need_set" (.cons (.var 0) .nil))) (.cons (.expr (.call "need_set" (.cons (.var 1) .nil))) (.cons (.expr (.call "need_set" (.cons (.var 2) .nil))) (.cons (.expr (.call "need_map" (.cons (.var 0) (.cons (.var 1) (.cons (.var 3) .nil))))) (.cons (.expr (.call "need_map" (.cons (.var 1) (.cons (.var 2) (.cons (.var 4) .nil))))) (.cons (.ret (.call "composed_by" (.cons (.var 2) (.cons (.var 3) (.cons (.var 4) .nil))))) .nil))))))
def irall_maps : ISs := (.cons (.expr (.call "need_set" (.cons (.var 0) .nil))) (.cons (.expr (.call "need_set" (.cons (.var 1) .nil))) (.cons (.ret (.call "maps_of" (.cons (.var 0) (.cons (.var 1) .nil)))) .nil)))
def irmaps_of : ISs := (.cons (.asg (.n 2) (.frz (.lc [6] (.call "rows_for" (.cons (.var 6) (.cons (.var 1) .nil))) (.n 6) (.seq (.var 0)) .nil))) (.cons (.asg (.n 3) (.int 1)) (.cons (.for_ (.n 4) (.seq (.var 2)) (.cons (.asg (.n 3) (.bin .mul (.var 3) (.bi .len (.cons (.var 4) .nil)))) .nil)) (.cons (.ite (.cmp .gt (.var 3) (.gint "MOST_MAPS" 500)) (.cons (.raise "TooMany") .nil) .nil) (.cons (.asg (.n 5) (.ite (.cmp .gt (.var 3) (.int 0)) (.frz (.disp (.cons (.tup .nil) .nil))) (.frz (.disp .nil)))) (.cons (.for_ (.n 4) (.seq (.var 2)) (.cons (.asg (.n 5) (.frz (.lc2 [7, 8] [8] (.bin .add (.var 7) (.tup (.cons (.var 8) .nil))) (.n 7) (.seq (.var 5)) .nil (.n 8) (.seq (.var 4)) .nil))) .nil)) (.cons (.ret (.var 5)) .nil)))))))
def ir_law_feed (p0 p1 p2 p3 p4 p5 : Int) : ISs := (.cons (.asg (.n 2) (.bin .add (.bin .mul (.int p0) (.var 1)) (.bin .mul (.int p1) (.bi .sum (.cons (.slc (.var 0) .omit (.int p2)) .nil))))) (.cons (.ite (.cmp .lt (.var 1) (.bi .len (.cons (.var 0) .nil))) (.cons (.asg (.n 2) (.idx (.var 0) (.var 1))) .nil) .nil) (.cons (.ret (.newl (.disp (.cons (.bi .max (.cons (.int 0) (.cons (.bin .sub (.var 2) (.bin .pow (.int 10) (.int 18))) .nil))) (.cons (.bin .mod (.bi .int (.cons (.bin .add (.bin .add (.bin .mul (.var 2) (.int p3)) (.bin .mul (.int p4) (.var 1))) (.int p5)) .nil)) (.bin .add (.bin .pow (.int 10) (.int 40)) (.int 121))) (.cons (.int 0) .nil)))))) .nil)))
def ir_law_draw (p0 p1 p2 p3 : Int) : ISs := (.cons (.ite (.cmp .gt (.idx (.var 0) (.int 0)) (.int 0)) (.cons (.asg (.n 2) (.bin .mod (.bi .int (.cons (.idx (.var 0) (.int 0)) .nil)) (.var 1))) (.cons (.seti (.var 0) (.int 0) (.bin .fdiv (.idx (.var 0) (.int 0)) (.var 1))) (.cons (.ret (.var 2)) .nil))) .nil) (.cons (.seti (.var 0) (.int 2) (.bin .add (.idx (.var 0) (.int 2)) (.int 1))) (.cons (.asg (.n 3) (.bin .add (.idx (.var 0) (.int 1)) (.bin .mul (.int p0) (.idx (.var 0) (.int 2))))) (.cons (.asg (.n 3) (.bin .mod (.bi .int (.cons (.bin .add (.bin .add (.bin .mul (.bin .mul (.var 3) (.var 3)) (.var 3)) (.bin .mul (.int p1) (.idx (.var 0) (.int 2)))) (.int p2)) .nil)) (.bin .add (.bin .pow (.int 10) (.int 41)) (.int 81)))) (.cons (.asg (.n 3) (.bin .mod (.bi .int (.cons (.bin .add (.bin .mul (.var 3) (.var 3)) (.int p3)) .nil)) (.bin .add (.bin .pow (.int 10) (.int 38)) (.int 133)))) (.cons (.ret (.bin .mod (.bi .int (.cons (.bin .fdiv (.var 3) (.bin .pow (.int 10) (.int 9))) .nil)) (.var 1))) .nil))))))
def ir_law_one : ISs := (.cons (.ret (.idx (.var 1) (.call "_law_draw" (.cons (.var 0) (.cons (.bi .len (.cons (.var 1) .nil)) .nil))))) .nil)
def ir_law_same : ISs := (.cons (.ite (.cmp .is (.var 1) .non) (.cons (.ret (.cmp .is (.var 0) .non)) .nil) .nil) (.cons (.ite (.isi (.var 1) .bool) (.cons (.ret (.and (.cons (.isi (.var 0) .bool) (.cons (.cmp .eq (.var 0) (.var 1)) .nil)))) .nil) .nil) (.cons (.ite (.isi (.var 1) .int) (.cons (.ret (.and (.cons (.isi (.var 0) .int) (.cons (.not (.isi (.var 0) .bool)) (.cons (.cmp .eq (.var 0) (.var 1)) .nil))))) .nil) .nil) (.cons (.ite (.isi (.var 1) .str) (.cons (.ret (.and (.cons (.isi (.var 0) .str) (.cons (.cmp .eq (.var 0) (.var 1)) .nil)))) .nil) .nil) (.cons (.ite (.or (.cons (.cmp .ne (.isi (.var 1) .list) (.isi (.var 0) .list)) (.cons (.not (.isi (.var 0) .seq)) (.cons (.cmp .ne (.bi .len (.cons (.var 0) .nil)) (.bi .len (.cons (.var 1) .nil))) .nil)))) (.cons (.ret (.bl false)) .nil) .nil) (.cons (.ret (.cmp .eq (.frz (.lc [2, 3] (.int 1) (.t (.cons (.n 2) (.cons (.n 3) .nil))) (.zip (.var 0) (.var 1)) (.cons (.not (.call "_law_same" (.cons (.var 2) (.cons (.var 3) .nil)))) .nil))) (.frz (.disp .nil)))) .nil))))))
def ir_law_mixed : ISs := (.cons (.par [2, 3] (.cons (.newl (.of (.var 1))) (.cons (.newl (.disp .nil)) .nil))) (.cons (.for_ (.n 4) (.rng (.one (.bi .len (.cons (.var 1) .nil)))) (.cons (.expr (.meth .append (.var 3) (.cons (.meth .pop (.var 2) (.cons (.call "_law_draw" (.cons (.var 0) (.cons (.bi .len (.cons (.var 2) .nil)) .nil))) .nil)) .nil))) .nil)) (.cons (.ret (.var 3)) .nil)))
def ir_law_turned : ISs := (.cons (.ret (.bi .tuple (.cons (.frz (.lc [2] (.idx (.var 1) (.var 2)) (.n 2) (.seq (.var 0)) .nil)) .nil))) .nil)
def ir_law_longer : ISs := (.cons (.asg (.n 2) (.newl (.disp .nil))) (.cons (.for_ (.n 3) (.seq (.var 0)) (.cons (.expr (.meth .extend (.var 2) (.cons (.frz (.lc [4] (.bin .add (.var 3) (.tup (.cons (.var 4) .nil))) (.n 4) (.rng (.one (.var 1))) (.cons (.cmp .notin (.var 4) (.var 3)) .nil))) .nil))) .nil)) (.cons (.ret (.var 2)) .nil)))
def ir_law_turnings : ISs := (.cons (.asg (.n 1) (.frz (.disp (.cons (.tup .nil) .nil)))) (.cons (.for_ (.n 2) (.rng (.one (.var 0))) (.cons (.asg (.n 1) (.call "_law_longer" (.cons (.var 1) (.cons (.var 0) .nil)))) .nil)) (.cons (.ret (.var 1)) .nil)))
def ir_law_closed : ISs := (.cons (.asg (.n 2) (.newl (.disp (.cons (.tupr (.one (.var 0))) .nil)))) (.cons (.for_ (.n 3) (.rng (.one (.int 720))) (.cons (.ite (.cmp .ge (.var 3) (.bi .len (.cons (.var 2) .nil))) (.cons .brk .nil) .nil) (.cons (.for_ (.n 4) (.seq (.var 1)) (.cons (.asg (.n 5) (.call "_law_turned" (.cons (.var 4) (.cons (.idx (.var 2) (.var 3)) .nil)))) (.cons (.ite (.cmp .notin (.var 5) (.var 2)) (.cons (.expr (.meth .append (.var 2) (.cons (.var 5) .nil))) .nil) .nil) .nil))) .nil))) (.cons (.ret (.bi .tuple (.cons (.frz (.sorted (.var 2))) .nil))) .nil)))
def ir_law_group : ISs := (.cons (.asg (.n 2) (.call "_law_turnings" (.cons (.var 1) .nil))) (.cons (.ret (.call "_law_closed" (.cons (.var 1) (.cons (.frz (.lc [3] (.call "_law_one" (.cons (.var 0) (.cons (.var 2) .nil))) (.n 3) (.rng (.one (.call "_law_one" (.cons (.var 0) (.cons (.frz (.disp (.cons (.int 0) (.cons (.int 0) (.cons (.int 1) (.cons (.int 1) (.cons (.int 2) .nil))))))) .nil))))) .nil)) .nil)))) .nil))
def ir_law_least : ISs := (.cons (.ret (.bi .min1 (.cons (.frz (.lc [2] (.call "_law_turned" (.cons (.var 2) (.cons (.var 1) .nil))) (.n 2) (.seq (.var 0)) .nil)) .nil))) .nil)
def ir_law_kinds : ISs := (.cons (.asg (.n 4) (.newl (.disp .nil))) (.cons (.for_ (.n 5) (.rng (.one (.var 1))) (.cons (.asg (.n 6) (.bin .add (.var 3) (.call "_law_draw" (.cons (.var 0) (.cons (.bin .sub (.bin .add (.var 2) (.int 1)) (.var 3)) .nil))))) (.cons (.expr (.meth .append (.var 4) (.cons (.tup (.cons (.var 6) (.cons (.call "_law_group" (.cons (.var 0) (.cons (.var 6) .nil))) .nil))) .nil))) .nil))) (.cons (.ret (.bi .tuple (.cons (.var 4) .nil))) .nil)))
def irlaw (p0 : Int) : ISs := (.cons (.for_ (.n 1) (.rng (.one (.bi .max (.cons (.int 1) (.cons (.bi .min (.cons (.bi .len (.cons (.var 0) .nil)) (.cons (.int p0) .nil))) .nil))))) (.cons (.ite (.not (.call "_law_right" (.cons (.call "_law_feed" (.cons (.var 0) (.cons (.var 1) .nil))) .nil))) (.cons (.ret (.bl false)) .nil) .nil) .nil)) (.cons (.ret (.bl true)) .nil))
def irlawT (p0 p1 : Int) : ISs := (.cons (.for_ (.n 1) (.rng (.one (.bi .max (.cons (.int 1) (.cons (.bi .min (.cons (.bi .len (.cons (.var 0) .nil)) (.cons (.int p0) .nil))) .nil))))) (.cons (.asg (.n 2) (.call "_law_feed" (.cons (.var 0) (.cons (.var 1) .nil)))) (.cons (.for_ (.n 3) (.rng (.one (.int p1))) (.cons (.ite (.not (.call "_law_right" (.cons (.var 2) .nil))) (.cons (.ret (.bl false)) .nil) .nil) .nil)) .nil))) (.cons (.ret (.bl true)) .nil))
end P

/-! How the small language runs on data that are known: rules for simp; contracts in lists. -/
namespace Nr
open PySem PySem.Spec PyProof.Rows L2
abbrev Ct : Type := List D → Hl → QE → XH → Prop
abbrev Specs : Type := List (Str × (Nat → Ct))
/-- a contract is in a list -/
abbrev Has (S : Specs) (f : Str) (c : Nat → Ct) : Prop := (f, c) ∈ S
/-- the contracts of a list -/
def Ph (S : Specs) (n : Nat) : Phi := fun f xs L Q E => ∃ c, (f, c) ∈ S ∧ c n xs L Q E
theorem ph {S : Specs} {n : Nat} {f : Str} {c : Nat → Ct} {xs : List D} {L : Hl} {Q : QE} {E : XH} (h : Has S f c) (q : c n xs L Q E) : Ph S n f xs L Q E := ⟨c, h, q⟩
/-- a contract that asks for so many levels -/
def lv (d : Nat) (c : Ct) : Nat → Ct := fun n xs L Q E => d ≤ n ∧ c xs L Q E
section
variable (Φ : Phi) (E : XH) (ds : Ds) (L : Hl) (Q : QE)
@[simp] theorem v_var (i : Nat) : semE Φ (.var i) E ds L Q = ∃ d, ds[i]? = some (some d) ∧ Q d L := by rw [semE]
@[simp] theorem v_int (i : Int) : semE Φ (.int i) E ds L Q = Q (.int i) L := by rw [semE]
@[simp] theorem v_str (x : Str) : semE Φ (.str x) E ds L Q = Q (.str x) L := by rw [semE]
@[simp] theorem v_bl (b : Bool) : semE Φ (.bl b) E ds L Q = Q (.bl b) L := by rw [semE]
@[simp] theorem v_non : semE Φ .non E ds L Q = Q .non L := by rw [semE]
@[simp] theorem v_gint (x : Str) (i : Int) : semE Φ (.gint x i) E ds L Q = Q (.int i) L := by rw [semE]
@[simp] theorem v_tup (es : IEs) : semE Φ (.tup es) E ds L Q = semEs Φ es E ds L fun xs L1 => xs.length ≤ sizeLine ∧ Q (.tup xs) L1 := by rw [semE]
@[simp] theorem v_frz (f : IF) : semE Φ (.frz f) E ds L Q = semF Φ f E ds L fun xs L1 => Q (.lst xs) L1 := by rw [semE]
@[simp] theorem v_newl (f : IF) : semE Φ (.newl f) E ds L Q = semF Φ f E ds L fun xs L1 => Q (.obj L1.length) (L1 ++ [.lst xs]) := by rw [semE]
@[simp] theorem v_frzd (f : ID) : semE Φ (.frzd f) E ds L Q = semD Φ f E ds L fun t ks vs L1 => Q (.dct t ks vs) L1 := by rw [semE]
@[simp] theorem v_newd (f : ID) : semE Φ (.newd f) E ds L Q = semD Φ f E ds L fun t ks vs L1 => Q (.obj L1.length) (L1 ++ [.dct t ks vs]) := by rw [semE]
@[simp] theorem v_bin (o : B2) (a b : IE) : semE Φ (.bin o a b) E ds L Q = semE Φ a E ds L fun x L1 => semE Φ b E ds L1 fun y L2 => binK o L2 x y fun z => Q z L2 := by rw [semE]
@[simp] theorem v_cmp (o : C2) (a b : IE) : semE Φ (.cmp o a b) E ds L Q = semE Φ a E ds L fun x L1 => semE Φ b E ds L1 fun y L2 => cmpK o L2 x y fun z => Q z L2 := by rw [semE]
/-- a chain's second test -/
def chK (z : D) (T F : Prop) : Prop := match z with
  | .bl true => T
  | .bl false => F
  | _ => False
@[simp] theorem chK_bl (b : Bool) (T F : Prop) : chK (.bl b) T F = if b = true then T else F := by cases b <;> simp [chK]
@[simp] theorem v_chain (o o' : C2) (a b c : IE) : semE Φ (.chain o o' a b c) E ds L Q = semE Φ a E ds L fun x L1 => semE Φ b E ds L1 fun y L2 => cmpK o L2 x y fun z => chK z (semE Φ c E ds L2 fun w L3 => cmpK o' L3 y w fun z => Q z L3) (Q (.bl false) L2) := by
  rw [semE]
  rfl
def negK (x : D) (k : D → Prop) : Prop := match x with
  | .int i => k (.int (-i))
  | _ => False
@[simp] theorem negK_int (i : Int) (k : D → Prop) : negK (.int i) k = k (.int (-i)) := rfl
@[simp] theorem v_neg (a : IE) : semE Φ (.neg a) E ds L Q = semE Φ a E ds L fun x L1 => negK x fun z => Q z L1 := by
  rw [semE]
  rfl
@[simp] theorem v_not (a : IE) : semE Φ (.not a) E ds L Q = semE Φ a E ds L fun x L1 => truthK L1 x fun b => Q (.bl (!b)) L1 := by rw [semE]
@[simp] theorem v_and (es : IEs) : semE Φ (.and es) E ds L Q = semAnd Φ es E ds L Q := by rw [semE]
@[simp] theorem v_or (es : IEs) : semE Φ (.or es) E ds L Q = semOr Φ es E ds L Q := by rw [semE]
@[simp] theorem v_ite (c a b : IE) : semE Φ (.ite c a b) E ds L Q = semE Φ c E ds L fun x L1 => truthK L1 x fun k => if k = true then semE Φ a E ds L1 Q else semE Φ b E ds L1 Q := by rw [semE]
@[simp] theorem v_idx (a b : IE) : semE Φ (.idx a b) E ds L Q = semE Φ a E ds L fun x L1 => semE Φ b E ds L1 fun y L2 => idxK L2 x y fun z => Q z L2 := by rw [semE]
@[simp] theorem v_slc (a lo hi : IE) : semE Φ (.slc a lo hi) E ds L Q = semE Φ a E ds L fun x L1 => partK (isOmit lo) (semE Φ lo E ds) L1 fun l L2 => partK (isOmit hi) (semE Φ hi E ds) L2 fun u L3 => slcK L3 x l u fun z => Q z L3 := by rw [semE]
@[simp] theorem v_call (f : Str) (es : IEs) : semE Φ (.call f es) E ds L Q = semEs Φ es E ds L fun xs L1 => Φ f xs L1 Q E := by rw [semE]
@[simp] theorem v_callk (f : Str) (es ks : IEs) (perm : List Nat) : semE Φ (.callk f es ks perm) E ds L Q = semEs Φ es E ds L fun xs L1 => semEs Φ ks E ds L1 fun ys L2 => (xs.length = es.len ∧ ys.length = ks.len) ∧ Φ f (permD perm (xs ++ ys)) L2 Q E := by rw [semE]
@[simp] theorem v_bi (b : Bi) (es : IEs) : semE Φ (.bi b es) E ds L Q = semEs Φ es E ds L fun xs L1 => biK b L1 xs fun z => Q z L1 := by rw [semE]
@[simp] theorem v_tupr (r : IR) : semE Φ (.tupr r) E ds L Q = semR Φ r E ds L fun i j L1 => RgOk i j ∧ Q (.tup (rngD i j)) L1 := by rw [semE]
@[simp] theorem v_isi (a : IE) (t : Ty) : semE Φ (.isi a t) E ds L Q = semE Φ a E ds L fun x L1 => isTy t L1 x fun b => Q (.bl b) L1 := by rw [semE]
@[simp] theorem v_meth (m : Mt) (a : IE) (es : IEs) : semE Φ (.meth m a es) E ds L Q = semE Φ a E ds L fun x L1 => lstAt L1 x ∧ semEs Φ es E ds L1 fun xs L2 => methK m L2 x xs Q := by rw [semE]
@[simp] theorem v_dget (a k d : IE) : semE Φ (.dget a k d) E ds L Q = semE Φ a E ds L fun x L1 => dctAt L1 x ∧ semE Φ k E ds L1 fun y L2 => semE Φ d E ds L2 fun z L3 => dgetK L3 x y z fun u => Q u L3 := by rw [semE]
@[simp] theorem v_give (i : Nat) : semE Φ (.give i) E ds L Q = ∃ n, ds[i]? = some (some (.obj n)) ∧ giveK L n Q := by rw [semE]
@[simp] theorem v_and1 (e : IE) : semAnd Φ (.cons e .nil) E ds L Q = semE Φ e E ds L Q := by rw [semAnd]
@[simp] theorem v_and2 (e f : IE) (es : IEs) : semAnd Φ (.cons e (.cons f es)) E ds L Q = semE Φ e E ds L fun x L1 => truthK L1 x fun k => if k = true then semAnd Φ (.cons f es) E ds L1 Q else Q x L1 := by rw [semAnd]; exact fun h => nomatch h
@[simp] theorem v_or1 (e : IE) : semOr Φ (.cons e .nil) E ds L Q = semE Φ e E ds L Q := by rw [semOr]
@[simp] theorem v_or2 (e f : IE) (es : IEs) : semOr Φ (.cons e (.cons f es)) E ds L Q = semE Φ e E ds L fun x L1 => truthK L1 x fun k => if k = true then Q x L1 else semOr Φ (.cons f es) E ds L1 Q := by rw [semOr]; exact fun h => nomatch h
variable (Qs : List D → Hl → Prop)
@[simp] theorem v_nil : semEs Φ .nil E ds L Qs = Qs [] L := by rw [semEs]
@[simp] theorem v_cons (e : IE) (es : IEs) : semEs Φ (.cons e es) E ds L Qs = semE Φ e E ds L fun x L1 => semEs Φ es E ds L1 fun xs L2 => Qs (x :: xs) L2 := by rw [semEs]
@[simp] theorem v_if0 (Qb : Bool → Hl → Prop) : semIf Φ .nil E ds L Qb = Qb true L := by rw [semIf]
@[simp] theorem v_if1 (e : IE) (es : IEs) (Qb : Bool → Hl → Prop) : semIf Φ (.cons e es) E ds L Qb = semE Φ e E ds L fun x L1 => truthK L1 x fun b => Qb b L1 := by rw [semIf]
@[simp] theorem f_disp' (es : IEs) : semF Φ (.disp es) E ds L Qs = semEs Φ es E ds L fun xs L1 => xs.length ≤ sizeLine ∧ Qs xs L1 := by rw [semF]
@[simp] theorem f_of' (e : IE) : semF Φ (.of e) E ds L Qs = semE Φ e E ds L fun x L1 => seqK L1 x fun xs => Qs xs L1 := by rw [semF]
@[simp] theorem f_rng' (r : IR) : semF Φ (.rng r) E ds L Qs = semR Φ r E ds L fun i j L1 => RgOk i j ∧ Qs (rngD i j) L1 := by rw [semF]
@[simp] theorem f_sorted' (e : IE) : semF Φ (.sorted e) E ds L Qs = semE Φ e E ds L fun x L1 => seqDK L1 x fun xs => (sortable xs ∧ xs.length ≤ sizeLine) ∧ Qs (sortD xs) L1 := by rw [semF]
def catK (x y : D) (k : List D → Prop) : Prop := match x, y with
  | .lst xs, .lst ys => xs.length + ys.length ≤ sizeLine ∧ k (xs ++ ys)
  | _, _ => False
@[simp] theorem catK_lst (xs ys : List D) (k : List D → Prop) : catK (.lst xs) (.lst ys) k = (xs.length + ys.length ≤ sizeLine ∧ k (xs ++ ys)) := rfl
@[simp] theorem f_cat' (a b : IE) : semF Φ (.cat a b) E ds L Qs = semE Φ a E ds L fun x L1 => semE Φ b E ds L1 fun y L2 => catK (res L2 x) (res L2 y) fun zs => Qs zs L2 := by
  rw [semF]
  rfl
def repK (x y : D) (k : List D → Prop) : Prop := match x, y with
  | .lst xs, .int j => (-(2 ^ 63) ≤ j ∧ j < 2 ^ 63 ∧ xs.length * j.toNat ≤ sizeLine) ∧ k (List.replicate j.toNat xs).flatten
  | _, _ => False
@[simp] theorem repK_lst (xs : List D) (j : Int) (k : List D → Prop) : repK (.lst xs) (.int j) k = ((-(2 ^ 63) ≤ j ∧ j < 2 ^ 63 ∧ xs.length * j.toNat ≤ sizeLine) ∧ k (List.replicate j.toNat xs).flatten) := rfl
@[simp] theorem f_rep' (a b : IE) : semF Φ (.rep a b) E ds L Qs = semE Φ a E ds L fun x L1 => semE Φ b E ds L1 fun y L2 => repK (res L2 x) y fun zs => Qs zs L2 := by
  rw [semF]
  rfl
@[simp] theorem f_lc' (own : List Nat) (e : IE) (g : IG) (it : II) (ifs : IEs) : semF Φ (.lc own e g it ifs) E ds L Qs = semI Φ it E ds L fun s L1 => lcR s (fun x L2 k => semG g x (wipeD ds own) fun ds2 => semIf Φ ifs NoE ds2 L2 fun b L3 =>
      if b = true then semE Φ e NoE ds2 L3 fun y L4 => k (some y) L4 else k none L3) Qs s.items [] L1 := by rw [semF]
@[simp] theorem f_lc2' (own own1 : List Nat) (e : IE) (g : IG) (it : II) (ifs : IEs) (g1 : IG) (it1 : II) (ifs1 : IEs) : semF Φ (.lc2 own own1 e g it ifs g1 it1 ifs1) E ds L Qs = semI Φ it E ds L fun s L1 => lcR2 s (fun x acc L2 k => semG g x (wipeD ds own) fun ds2 => semIf Φ ifs NoE ds2 L2 fun b L3 =>
      if b = true then semI Φ it1 NoE ds2 L3 fun s1 L4 => lcR s1 (fun x1 L5 k1 => semG g1 x1 (wipeD ds2 own1) fun ds3 => semIf Φ ifs1 NoE ds3 L5 fun b1 L6 =>
        if b1 = true then semE Φ e NoE ds3 L6 fun y L7 => k1 (some y) L7 else k1 none L6) k s1.items acc L4 else k acc L3) Qs s.items [] L1 := by rw [semF]
variable (Qd : Bool → List D → List D → Hl → Prop)
@[simp] theorem d_nil' (t : Bool) : semD Φ (.nil t) E ds L Qd = Qd t [] [] L := by rw [semD]
@[simp] theorem d_one' (t : Bool) (k v : IE) : semD Φ (.one t k v) E ds L Qd = semE Φ k E ds L fun y L1 => semE Φ v E ds L1 fun z L2 => keyOk t y = true ∧ Qd t [y] [z] L2 := by rw [semD]
@[simp] theorem d_dc' (t : Bool) (own : List Nat) (k v : IE) (g : IG) (it : II) (ifs : IEs) : semD Φ (.dc t own k v g it ifs) E ds L Qd = semI Φ it E ds L fun s L1 => dcR t s (fun x L2 c => semG g x (wipeD ds own) fun ds2 => semIf Φ ifs NoE ds2 L2 fun b L3 =>
      if b = true then semE Φ k NoE ds2 L3 fun y L4 => semE Φ v NoE ds2 L4 fun z L5 => c (some (y, z)) L5 else c none L3) (fun ks vs L => Qd t ks vs L) s.items [] [] L1 := by rw [semD]
variable (Qr : Int → Int → Hl → Prop) (Qi : Src → Hl → Prop)
def intK1 (x : D) (k : Int → Prop) : Prop := match x with
  | .int i => k i
  | _ => False
@[simp] theorem intK1_int (i : Int) (k : Int → Prop) : intK1 (.int i) k = k i := rfl
@[simp] theorem r_one' (b : IE) : semR Φ (.one b) E ds L Qr = semE Φ b E ds L fun y L1 => intK1 y fun j => Qr 0 j L1 := by
  rw [semR]
  rfl
def intK2 (x y : D) (k : Int → Int → Prop) : Prop := match x, y with
  | .int i, .int j => k i j
  | _, _ => False
@[simp] theorem intK2_int (i j : Int) (k : Int → Int → Prop) : intK2 (.int i) (.int j) k = k i j := rfl
@[simp] theorem r_two' (a b : IE) : semR Φ (.two a b) E ds L Qr = semE Φ a E ds L fun x L1 => semE Φ b E ds L1 fun y L2 => intK2 x y fun i j => Qr i j L2 := by
  rw [semR]
  rfl
@[simp] theorem i_seq' (e : IE) : semI Φ (.seq e) E ds L Qi = semE Φ e E ds L fun x L1 => srcK L1 x fun s => Qi s L1 := by rw [semI]
@[simp] theorem i_rng' (r : IR) : semI Φ (.rng r) E ds L Qi = semR Φ r E ds L fun i j L1 => (smallR i ∧ smallR j) ∧ Qi (.fixed (rngD i j)) L1 := by rw [semI]
def enumK (x : D) (k : List D → Prop) : Prop := match x with
  | .tup xs => k (enumD 0 xs)
  | .lst xs => k (enumD 0 xs)
  | _ => False
@[simp] theorem enumK_tup (xs : List D) (k : List D → Prop) : enumK (.tup xs) k = k (enumD 0 xs) := rfl
@[simp] theorem enumK_lst (xs : List D) (k : List D → Prop) : enumK (.lst xs) k = k (enumD 0 xs) := rfl
@[simp] theorem i_enum' (a : IE) : semI Φ (.enum a) E ds L Qi = semE Φ a E ds L fun x L1 => enumK x fun xs => Qi (.fixed xs) L1 := by rw [semI]; rfl
def zipK (x y : D) (k : List D → Prop) : Prop := match x, y with
  | .tup xs, .tup ys => k (zipD xs ys)
  | .lst xs, .lst ys => k (zipD xs ys)
  | _, _ => False
@[simp] theorem zipK_tup (xs ys : List D) (k : List D → Prop) : zipK (.tup xs) (.tup ys) k = k (zipD xs ys) := rfl
@[simp] theorem zipK_lst (xs ys : List D) (k : List D → Prop) : zipK (.lst xs) (.lst ys) k = k (zipD xs ys) := rfl
@[simp] theorem i_zip' (a b : IE) : semI Φ (.zip a b) E ds L Qi = semE Φ a E ds L fun x L1 => semE Φ b E ds L1 fun y L2 => zipK x y fun xs => Qi (.fixed xs) L2 := by rw [semI]; rfl
end
section
variable (k : Ds → Prop) (ds : Ds)
@[simp] theorem g_n (i : Nat) (d : D) : semG (.n i) d ds k = k (ds.set i (some d)) := by rw [semG]
@[simp] theorem g_tt (gs : IGs) (xs : List D) : semG (.t gs) (.tup xs) ds k = semGs gs xs ds k := by rw [semG]
@[simp] theorem g_tl (gs : IGs) (xs : List D) : semG (.t gs) (.lst xs) ds k = semGs gs xs ds k := by rw [semG]
@[simp] theorem g_nil : semGs .nil [] ds k = k ds := by rw [semGs]
@[simp] theorem g_cons (g : IG) (gs : IGs) (x : D) (xs : List D) : semGs (.cons g gs) (x :: xs) ds k = semG g x ds fun ds1 => semGs gs xs ds1 k := by rw [semGs]
end
section
variable (Φ : Phi) (E : XS) (N : DN) (ds : Ds) (L : Hl)
@[simp] theorem s_pass' : semS Φ .pass E N ds L = N.nx ds L := by rw [semS]
@[simp] theorem s_expr' (e : IE) : semS Φ (.expr e) E N ds L = semE Φ e (xh E ds) ds L fun _ L1 => N.nx ds L1 := by rw [semS]
@[simp] theorem s_asg' (g : IG) (e : IE) : semS Φ (.asg g e) E N ds L = semE Φ e (xh E ds) ds L fun d L1 => semG g d ds fun ds1 => N.nx ds1 L1 := by rw [semS]
@[simp] theorem s_par' (is : List Nat) (es : IEs) : semS Φ (.par is es) E N ds L = semEs Φ es (xh E ds) ds L fun xs L1 => xs.length = is.length ∧ N.nx (setsD is xs ds) L1 := by rw [semS]
@[simp] theorem s_seti' (o i e : IE) : semS Φ (.seti o i e) E N ds L = semE Φ e (xh E ds) ds L fun v L1 => semE Φ o (xh E ds) ds L1 fun x L2 => semE Φ i (xh E ds) ds L2 fun k L3 => setK L3 x k v fun L4 => N.nx ds L4 := by rw [semS]
def augK (d y : D) (k : D → Prop) : Prop := match d, y with
  | .int a, .int b => k (.int (a + b))
  | _, _ => False
@[simp] theorem augK_int (a b : Int) (k : D → Prop) : augK (.int a) (.int b) k = k (.int (a + b)) := rfl
@[simp] theorem s_aug' (i : Nat) (e : IE) : semS Φ (.aug i e) E N ds L = ∃ d, ds[i]? = some (some d) ∧ semE Φ e (xh E ds) ds L fun y L1 => augK d y fun z => N.nx (ds.set i (some z)) L1 := by
  rw [semS]
  rfl
@[simp] theorem s_ret' (e : IE) : semS Φ (.ret e) E N ds L = semE Φ e (xh E ds) ds L N.rt := by rw [semS]
@[simp] theorem s_ret0' : semS Φ .ret0 E N ds L = N.rt .non L := by rw [semS]
@[simp] theorem s_ite' (c : IE) (a b : ISs) : semS Φ (.ite c a b) E N ds L = semE Φ c (xh E ds) ds L fun x L1 => truthK L1 x fun k => if k = true then semSs Φ a E N ds L1 else semSs Φ b E N ds L1 := by rw [semS]
@[simp] theorem s_for' (g : IG) (it : II) (b : ISs) : semS Φ (.for_ g it b) E N ds L = semI Φ it (xh E ds) ds L fun s L1 => forR s (fun x M ds L => semG g x ds fun ds1 => semSs Φ b E M ds1 L) N s.items ds L1 := by rw [semS]
@[simp] theorem s_while' (c : IE) (b : ISs) : semS Φ (.while_ c b) E N ds L = ∃ n, whileR (fun ds L k => semE Φ c (xh E ds) ds L fun x L1 => truthK L1 x fun b => k b L1) (fun M ds L => semSs Φ b E M ds L) N n ds L := by rw [semS]
@[simp] theorem s_brk' : semS Φ .brk E N ds L = N.bk ds L := by rw [semS]
@[simp] theorem s_cont' : semS Φ .cont E N ds L = N.ct ds L := by rw [semS]
@[simp] theorem s_raise' (c : Str) : semS Φ (.raise c) E N ds L = E c ds L := by rw [semS]
@[simp] theorem s_try' (b : ISs) (c : Str) (xs : List Str) (i j : Nat) : semS Φ (.try_ b c xs i j) E N ds L = semSs Φ b (fun x ds' L' => x ∈ xs ∧ if exSub x c = true then N.nx ((ds'.set j (some (.exc x))).set i none) L' else E x ds' L') N ds L := by rw [semS]
@[simp] theorem s_tryr' (b : ISs) (c : Str) (xs : List Str) : semS Φ (.tryr b c xs) E N ds L = semSs Φ b (fun x ds' L' => x ∈ xs ∧ if exSub x c = true then N.rt .non L' else E x ds' L') N ds L := by rw [semS]
@[simp] theorem s_nil' : semSs Φ .nil E N ds L = N.nx ds L := by rw [semSs]
@[simp] theorem s_cons' (s : IS) (r : ISs) : semSs Φ (.cons s r) E N ds L = semS Φ s E { N with nx := semSs Φ r E N } ds L := by rw [semSs]
end
/-! ### a body, some statements at a time -/
def takeS : Nat → ISs → ISs
  | n + 1, .cons s r => .cons s (takeS n r)
  | _, _ => .nil
def dropS : Nat → ISs → ISs
  | n + 1, .cons _ r => dropS n r
  | _, r => r
theorem seg_eq (Φ : Phi) (E : XS) : ∀ (k : Nat) (b : ISs) (N : DN) (ds : Ds) (L : Hl), semSs Φ (takeS k b) E { N with nx := semSs Φ (dropS k b) E N } ds L = semSs Φ b E N ds L
  | 0, b, N, ds, L => by simp [takeS, dropS]
  | k + 1, .nil, N, ds, L => by simp [takeS, dropS]
  | k + 1, .cons s r, N, ds, L => by
    have : semSs Φ (takeS k r) E { N with nx := semSs Φ (dropS k r) E N } = semSs Φ r E N := funext fun ds => funext fun L => seg_eq Φ E k r N ds L
    simp only [takeS, dropS, s_cons', this]
theorem seg {Φ : Phi} {E : XS} (k : Nat) {b R : ISs} {N : DN} {ds : Ds} {L : Hl} (hR : dropS k b = R) (h : semSs Φ (takeS k b) E { N with nx := semSs Φ R E N } ds L) : semSs Φ b E N ds L := by
  subst hR
  rw [← seg_eq Φ E k]
  exact h
end Nr

/-! Values that are known: what the operators do. -/
namespace Nr
open PySem PySem.Spec PyProof.Rows L2
section
variable (L : Hl)
@[simp] theorem rs_non : res L .non = .non := rfl
@[simp] theorem rs_bl (b : Bool) : res L (.bl b) = .bl b := rfl
@[simp] theorem rs_int (i : Int) : res L (.int i) = .int i := rfl
@[simp] theorem rs_str (x : Str) : res L (.str x) = .str x := rfl
@[simp] theorem rs_tup (xs : List D) : res L (.tup xs) = .tup xs := rfl
@[simp] theorem rs_lst (xs : List D) : res L (.lst xs) = .lst xs := rfl
@[simp] theorem rs_scr (xs : List D) : res L (.scr xs) = .scr xs := rfl
@[simp] theorem rs_dct (t : Bool) (ks vs : List D) : res L (.dct t ks vs) = .dct t ks vs := rfl
@[simp] theorem rs_exc (c : Str) : res L (.exc c) = .exc c := rfl
theorem rs_obj {L : Hl} {i : Nat} {xs : List D} (h : L[i]? = some (.lst xs)) : res L (.obj i) = .lst xs := by simp [res, h]
theorem rs_objd {L : Hl} {i : Nat} {t : Bool} {ks vs : List D} (h : L[i]? = some (.dct t ks vs)) : res L (.obj i) = .dct t ks vs := by simp [res, h]
variable (Q : Bool → Prop)
@[simp] theorem tr_bl (b : Bool) : truthK L (.bl b) Q = Q b := by simp [truthK, truthV]
@[simp] theorem tr_int (i : Int) : truthK L (.int i) Q = Q (i != 0) := by simp [truthK, truthV]
@[simp] theorem tr_non : truthK L .non Q = Q false := by simp [truthK, truthV]
@[simp] theorem tr_tup (xs : List D) : truthK L (.tup xs) Q = Q (!xs.isEmpty) := by cases xs <;> simp [truthK, truthV]
@[simp] theorem tr_lst (xs : List D) : truthK L (.lst xs) Q = Q (!xs.isEmpty) := by cases xs <;> simp [truthK, truthV]
@[simp] theorem ty_int (d : D) : isTy .int L d Q = ∃ n, tnOf L d = some n ∧ Q (tnIs .int n) := rfl
@[simp] theorem ty_bool (d : D) : isTy .bool L d Q = ∃ n, tnOf L d = some n ∧ Q (tnIs .bool n) := rfl
@[simp] theorem ty_str (d : D) : isTy .str L d Q = ∃ n, tnOf L d = some n ∧ Q (tnIs .str n) := rfl
@[simp] theorem ty_tuple (d : D) : isTy .tuple L d Q = ∃ n, tnOf L d = some n ∧ Q (tnIs .tuple n) := rfl
@[simp] theorem ty_list (d : D) : isTy .list L d Q = ∃ n, tnOf L d = some n ∧ Q (tnIs .list n) := rfl
@[simp] theorem ty_dict (d : D) : isTy .dict L d Q = ∃ n, tnOf L d = some n ∧ Q (tnIs .dict n) := rfl
@[simp] theorem ty_seq (d : D) : isTy .seq L d Q = ∃ n, tnOf L d = some n ∧ Q (tnIs .seq n) := rfl
@[simp] theorem ty_cls (c : Str) (xs : List Str) (c' : Str) : isTy (.cls c xs) L (.exc c') Q = (c' ∈ xs ∧ Q (exSub c' c)) := rfl
@[simp] theorem tn_non : tnOf L .non = some .non := rfl
@[simp] theorem tn_bl (b : Bool) : tnOf L (.bl b) = some .bl := rfl
@[simp] theorem tn_int (i : Int) : tnOf L (.int i) = some .int := rfl
@[simp] theorem tn_str (x : Str) : tnOf L (.str x) = some .str := rfl
@[simp] theorem tn_tup (xs : List D) : tnOf L (.tup xs) = some .tup := rfl
@[simp] theorem tn_lst (xs : List D) : tnOf L (.lst xs) = some .lst := rfl
@[simp] theorem tn_scr (xs : List D) : tnOf L (.scr xs) = some .lst := rfl
@[simp] theorem tn_dct (t : Bool) (ks vs : List D) : tnOf L (.dct t ks vs) = some .dct := rfl
theorem tn_obj {L : Hl} {i : Nat} {xs : List D} (h : L[i]? = some (.lst xs)) : tnOf L (.obj i) = some .lst := by simp [tnOf, rs_obj h]
end
def allB (bs : List Bool) : Bool := bs.all id
def anyB (bs : List Bool) : Bool := bs.any id
theorem allB_map {α : Type} (f : α → Bool) (xs : List α) : allB (xs.map f) = xs.all f := by
  unfold allB
  rw [List.all_map]
  rfl
theorem anyB_map {α : Type} (f : α → Bool) (xs : List α) : anyB (xs.map f) = xs.any f := by
  unfold anyB
  rw [List.any_map]
  rfl
section
variable (L : Hl) (Q : D → Prop)
@[simp] theorem b_addi (i j : Int) : binK .add L (.int i) (.int j) Q = Q (.int (i + j)) := rfl
@[simp] theorem b_addt (a b : List D) : binK .add L (.tup a) (.tup b) Q = (a.length + b.length ≤ sizeLine ∧ Q (.tup (a ++ b))) := rfl
@[simp] theorem b_addl (a b : List D) : binK .add L (.lst a) (.lst b) Q = (a.length + b.length ≤ sizeLine ∧ Q (.lst (a ++ b))) := rfl
@[simp] theorem b_sub (i j : Int) : binK .sub L (.int i) (.int j) Q = Q (.int (i - j)) := by show (True ∧ Q (.int (i - j))) = _; rw [true_and]
@[simp] theorem b_mul' (i j : Int) : binK .mul L (.int i) (.int j) Q = (mulOk i j ∧ Q (.int (i * j))) := rfl
@[simp] theorem b_mull (a : List D) (k : Int) : binK .mul L (.lst a) (.int k) Q = ((-(2 ^ 63) ≤ k ∧ k < 2 ^ 63 ∧ a.length * k.toNat ≤ sizeLine) ∧ Q (.lst (List.replicate k.toNat a).flatten)) := rfl
@[simp] theorem b_mult (a : List D) (k : Int) : binK .mul L (.tup a) (.int k) Q = ((a ≠ [] ∧ 2 ≤ k ∧ k ≤ 1000 ∧ a.length ≤ 1000) ∧ Q (.tup (List.replicate k.toNat a).flatten)) := rfl
@[simp] theorem b_mod (i j : Int) : binK .mod L (.int i) (.int j) Q = (0 < j ∧ Q (.int (i % j))) := rfl
@[simp] theorem b_fdiv (i j : Int) : binK .fdiv L (.int i) (.int j) Q = (CDivW i j ∧ Q (.int (i / j))) := rfl
@[simp] theorem b_pow (i j : Int) : binK .pow L (.int i) (.int j) Q = (powC i j ∧ Q (.int (i ^ j.toNat))) := rfl
@[simp] theorem c_lt' (i j : Int) : cmpK .lt L (.int i) (.int j) Q = Q (.bl (decide (i < j))) := rfl
@[simp] theorem c_le' (i j : Int) : cmpK .le L (.int i) (.int j) Q = Q (.bl (decide (i ≤ j))) := rfl
@[simp] theorem c_gt' (i j : Int) : cmpK .gt L (.int i) (.int j) Q = Q (.bl (decide (j < i))) := rfl
@[simp] theorem c_ge' (i j : Int) : cmpK .ge L (.int i) (.int j) Q = Q (.bl (decide (j ≤ i))) := rfl
@[simp] theorem c_ltt (a b : List D) : cmpK .lt L (.tup a) (.tup b) Q = ((plain 60 (.tup a) = true ∧ plain 60 (.tup b) = true ∧ alikeD (.tup a) (.tup b) = true) ∧ Q (.bl (dlt (.tup a) (.tup b)))) := rfl
theorem c_eq0 (x y : D) : cmpK .eq L x y Q = ((plain 60 (res L x) = true ∧ plain 60 (res L y) = true) ∧ Q (.bl (deq (res L x) (res L y)))) := rfl
theorem c_ne0 (x y : D) : cmpK .ne L x y Q = ((plain 60 (res L x) = true ∧ plain 60 (res L y) = true) ∧ Q (.bl (!deq (res L x) (res L y)))) := rfl
@[simp] theorem c_eqi (i j : Int) : cmpK .eq L (.int i) (.int j) Q = Q (.bl (decide (i = j))) := (ev_cmp L Q i j).2.2.2.2.1
@[simp] theorem c_nei (i j : Int) : cmpK .ne L (.int i) (.int j) Q = Q (.bl (!decide (i = j))) := (ev_cmp L Q i j).2.2.2.2.2
@[simp] theorem c_eqs (i j : Str) : cmpK .eq L (.str i) (.str j) Q = Q (.bl (decide (i = j))) := by
  have e : (i == j) = decide (i = j) := by by_cases h : i = j <;> simp [h]
  simp [c_eq0, plain, deq, toP, PyData.eqv, e]
@[simp] theorem c_nes (i j : Str) : cmpK .ne L (.str i) (.str j) Q = Q (.bl (!decide (i = j))) := by
  have e : (i == j) = decide (i = j) := by by_cases h : i = j <;> simp [h]
  simp [c_ne0, plain, deq, toP, PyData.eqv, e]
@[simp] theorem c_eqb (i j : Bool) : cmpK .eq L (.bl i) (.bl j) Q = Q (.bl (i == j)) := by
  cases i <;> cases j <;> simp [c_eq0, plain, deq, toP, PyData.eqv]
@[simp] theorem c_neb (i j : Bool) : cmpK .ne L (.bl i) (.bl j) Q = Q (.bl (!(i == j))) := by
  cases i <;> cases j <;> simp [c_ne0, plain, deq, toP, PyData.eqv]
@[simp] theorem c_is' (x : D) : cmpK .is L x .non Q = Q (.bl (isNon x)) := rfl
@[simp] theorem c_isnot' (x : D) : cmpK .isnot L x .non Q = Q (.bl (!isNon x)) := rfl
@[simp] theorem c_isb (a b : Bool) : cmpK .is L (.bl a) (.bl b) Q = Q (.bl (a == b)) := rfl
@[simp] theorem c_isnotb (a b : Bool) : cmpK .isnot L (.bl a) (.bl b) Q = Q (.bl (!(a == b))) := rfl
@[simp] theorem c_int' (x : D) (xs : List D) : cmpK .isin L x (.tup xs) Q = ((plain 60 x = true ∧ plain 60 (.tup xs) = true) ∧ Q (.bl (hasD x xs))) := rfl
@[simp] theorem c_inl' (x : D) (xs : List D) : cmpK .isin L x (.lst xs) Q = ((plain 60 x = true ∧ plain 60 (.lst xs) = true) ∧ Q (.bl (hasD x xs))) := rfl
@[simp] theorem c_notint' (x : D) (xs : List D) : cmpK .notin L x (.tup xs) Q = ((plain 60 x = true ∧ plain 60 (.tup xs) = true) ∧ Q (.bl (!hasD x xs))) := rfl
@[simp] theorem c_notinl' (x : D) (xs : List D) : cmpK .notin L x (.lst xs) Q = ((plain 60 x = true ∧ plain 60 (.lst xs) = true) ∧ Q (.bl (!hasD x xs))) := rfl
@[simp] theorem c_ind' (x : D) (t : Bool) (ks vs : List D) : cmpK .isin L x (.dct t ks vs) Q = (keyOk t x = true ∧ Q (.bl (dhas ks x))) := rfl
@[simp] theorem c_notind' (x : D) (t : Bool) (ks vs : List D) : cmpK .notin L x (.dct t ks vs) Q = (keyOk t x = true ∧ Q (.bl (!dhas ks x))) := rfl
theorem c_ino {L : Hl} {Q : D → Prop} {n : Nat} {t : Bool} {ks vs : List D} (h : L[n]? = some (.dct t ks vs)) (x : D) : cmpK .isin L x (.obj n) Q = (keyOk t x = true ∧ Q (.bl (dhas ks x))) := by
  unfold cmpK
  simp only [rs_objd h]
theorem c_notino {L : Hl} {Q : D → Prop} {n : Nat} {t : Bool} {ks vs : List D} (h : L[n]? = some (.dct t ks vs)) (x : D) : cmpK .notin L x (.obj n) Q = (keyOk t x = true ∧ Q (.bl (!dhas ks x))) := by
  unfold cmpK
  simp only [rs_objd h]
theorem c_inlo {L : Hl} {Q : D → Prop} {n : Nat} {xs : List D} (h : L[n]? = some (.lst xs)) (x : D) : cmpK .isin L x (.obj n) Q = ((plain 60 x = true ∧ plain 60 (.lst xs) = true) ∧ Q (.bl (hasD x xs))) := by
  unfold cmpK
  simp only [rs_obj h]
theorem c_notinlo {L : Hl} {Q : D → Prop} {n : Nat} {xs : List D} (h : L[n]? = some (.lst xs)) (x : D) : cmpK .notin L x (.obj n) Q = ((plain 60 x = true ∧ plain 60 (.lst xs) = true) ∧ Q (.bl (!hasD x xs))) := by
  unfold cmpK
  simp only [rs_obj h]
@[simp] theorem isNon_non : isNon .non = true := rfl
@[simp] theorem isNon_bl (b : Bool) : isNon (.bl b) = false := rfl
@[simp] theorem isNon_int (b : Int) : isNon (.int b) = false := rfl
@[simp] theorem isNon_str (b : Str) : isNon (.str b) = false := rfl
@[simp] theorem isNon_tup (b : List D) : isNon (.tup b) = false := rfl
@[simp] theorem isNon_lst (b : List D) : isNon (.lst b) = false := rfl
@[simp] theorem isNon_exc (b : Str) : isNon (.exc b) = false := rfl
theorem atI_of {α : Type} {xs : List α} {k : Nat} : atI xs (k : Int) = xs[k]? := by
  by_cases h : k < xs.length
  · exact atI_nat h
  · unfold atI ixN
    rw [if_pos (by omega), if_neg (by omega)]
    simp
    omega
@[simp] theorem at0 {α : Type} (xs : List α) : atI xs 0 = xs[0]? := atI_of (k := 0)
@[simp] theorem at1 {α : Type} (xs : List α) : atI xs 1 = xs[1]? := atI_of (k := 1)
@[simp] theorem at2 {α : Type} (xs : List α) : atI xs 2 = xs[2]? := atI_of (k := 2)
@[simp] theorem at3 {α : Type} (xs : List α) : atI xs 3 = xs[3]? := atI_of (k := 3)
@[simp] theorem at4 {α : Type} (xs : List α) : atI xs 4 = xs[4]? := atI_of (k := 4)
@[simp] theorem atN {α : Type} (xs : List α) (k : Nat) : atI xs (k : Int) = xs[k]? := atI_of
@[simp] theorem ix_tup (xs : List D) (i : Int) : idxK L (.tup xs) (.int i) Q = ∃ v, atI xs i = some v ∧ Q v := rfl
@[simp] theorem ix_lst (xs : List D) (i : Int) : idxK L (.lst xs) (.int i) Q = ∃ v, atI xs i = some v ∧ Q v := rfl
@[simp] theorem ix_scr (xs : List D) (i : Int) : idxK L (.scr xs) (.int i) Q = ∃ v, atI xs i = some v ∧ Q v := rfl
@[simp] theorem ix_dct' (t : Bool) (ks vs : List D) (i : D) : idxK L (.dct t ks vs) i Q = (keyOk t i = true ∧ ∃ v, dget ks vs i = some v ∧ Q v) := by cases i <;> rfl
theorem ix_objd {L : Hl} {Q : D → Prop} {n : Nat} {t : Bool} {ks vs : List D} (h : L[n]? = some (.dct t ks vs)) (i : D) : idxK L (.obj n) i Q = (keyOk t i = true ∧ ∃ v, dget ks vs i = some v ∧ Q v) := by unfold idxK; rw [rs_objd h]
@[simp] theorem dg_dct (t : Bool) (ks vs : List D) (i x : D) : dgetK L (.dct t ks vs) i x Q = (keyOk t i = true ∧ Q ((dget ks vs i).getD x)) := rfl
theorem dg_objd {L : Hl} {Q : D → Prop} {n : Nat} {t : Bool} {ks vs : List D} (h : L[n]? = some (.dct t ks vs)) (i x : D) : dgetK L (.obj n) i x Q = (keyOk t i = true ∧ Q ((dget ks vs i).getD x)) := by unfold dgetK; rw [rs_objd h]
theorem dct_at {L : Hl} {n : Nat} {t : Bool} {ks vs : List D} (h : L[n]? = some (.dct t ks vs)) : dctAt L (.obj n) := ⟨t, ks, vs, rs_objd h⟩
@[simp] theorem dct_at' (t : Bool) (ks vs : List D) : dctAt L (.dct t ks vs) := ⟨t, ks, vs, rfl⟩
theorem give_lst {L : Hl} {Q : D → Hl → Prop} {n : Nat} {xs : List D} (h : L[n]? = some (.lst xs)) : giveK L n Q = Q (.lst xs) (L.set n .dead) := by unfold giveK; simp only [h]
theorem give_dct {L : Hl} {Q : D → Hl → Prop} {n : Nat} {t : Bool} {ks vs : List D} (h : L[n]? = some (.dct t ks vs)) : giveK L n Q = Q (.dct t ks vs) (L.set n .dead) := by unfold giveK; simp only [h]
theorem ln_objd {L : Hl} {Q : D → Prop} {n : Nat} {t : Bool} {ks vs : List D} (h : L[n]? = some (.dct t ks vs)) : lenK L (.obj n) Q = Q (.int ks.length) := by unfold lenK; rw [rs_objd h]
theorem ix_obj {L : Hl} {Q : D → Prop} {n : Nat} {xs : List D} (h : L[n]? = some (.lst xs)) (i : Int) : idxK L (.obj n) (.int i) Q = ∃ v, atI xs i = some v ∧ Q v := by unfold idxK; rw [rs_obj h]
@[simp] theorem ln_tup (xs : List D) : lenK L (.tup xs) Q = Q (.int xs.length) := rfl
@[simp] theorem ln_lst (xs : List D) : lenK L (.lst xs) Q = Q (.int xs.length) := rfl
@[simp] theorem ln_scr (xs : List D) : lenK L (.scr xs) Q = Q (.int xs.length) := rfl
@[simp] theorem ln_dct (t : Bool) (ks vs : List D) : lenK L (.dct t ks vs) Q = Q (.int ks.length) := rfl
@[simp] theorem ln_str (x : Str) : lenK L (.str x) Q = (x.length ≤ sizeLine ∧ Q (.int x.length)) := rfl
theorem ln_obj {L : Hl} {Q : D → Prop} {n : Nat} {xs : List D} (h : L[n]? = some (.lst xs)) : lenK L (.obj n) Q = Q (.int xs.length) := by unfold lenK; rw [rs_obj h]
@[simp] theorem sl_tup (xs : List D) (lo hi : Option Int) : slcK L (.tup xs) lo hi Q = Q (.tup (cutD xs lo hi)) := rfl
@[simp] theorem sl_lst (xs : List D) (lo hi : Option Int) : slcK L (.lst xs) lo hi Q = Q (.lst (cutD xs lo hi)) := rfl
@[simp] theorem sl_scr (xs : List D) (lo hi : Option Int) : slcK L (.scr xs) lo hi Q = Q (.lst (cutD xs lo hi)) := rfl
theorem cut_from (xs : List D) (k : Nat) : cutD xs (some (k : Int)) none = xs.drop k := by
  unfold cutD HT.sIx
  simp only
  rw [if_neg (by omega), Int.toNat_natCast]
  by_cases h : k ≤ xs.length
  · rw [Nat.min_eq_left h]
    exact List.take_of_length_le (by simp)
  · rw [Nat.min_eq_right (by omega), List.drop_of_length_le (i := xs.length) (Nat.le_refl _), List.drop_of_length_le (by omega)]
    simp
@[simp] theorem cut_1 (xs : List D) : cutD xs (some 1) none = xs.drop 1 := cut_from xs 1
@[simp] theorem cut_2 (xs : List D) : cutD xs (some 2) none = xs.drop 2 := cut_from xs 2
theorem cut_to (xs : List D) (k : Nat) : cutD xs none (some (k : Int)) = xs.take k := by
  unfold cutD HT.sIx
  simp only
  rw [if_neg (by omega), Int.toNat_natCast, List.drop_zero, Nat.sub_zero]
  by_cases h : k ≤ xs.length
  · rw [Nat.min_eq_left h]
  · rw [Nat.min_eq_right (by omega), List.take_of_length_le (Nat.le_refl _), List.take_of_length_le (by omega)]
@[simp] theorem cut_u1 (xs : List D) : cutD xs none (some 1) = xs.take 1 := cut_to xs 1
@[simp] theorem cut_u2 (xs : List D) : cutD xs none (some 2) = xs.take 2 := cut_to xs 2
@[simp] theorem cut_u3 (xs : List D) : cutD xs none (some 3) = xs.take 3 := cut_to xs 3
@[simp] theorem pt_t (t : Hl → QE → Prop) (Qo : Option Int → Hl → Prop) : partK true t L Qo = Qo none L := rfl
@[simp] theorem pt_f (t : Hl → QE → Prop) (Qo : Option Int → Hl → Prop) : partK false t L Qo = t L fun x L1 => optI x fun o => Qo o L1 := rfl
@[simp] theorem opt_int (i : Int) (Qo : Option Int → Prop) : optI (.int i) Qo = Qo (some i) := rfl
@[simp] theorem om_omit : isOmit .omit = true := rfl
@[simp] theorem om_int (i : Int) : isOmit (.int i) = false := rfl
@[simp] theorem om_var (i : Nat) : isOmit (.var i) = false := rfl
@[simp] theorem om_neg (i : IE) : isOmit (.neg i) = false := rfl
@[simp] theorem om_bin (o : B2) (a b : IE) : isOmit (.bin o a b) = false := rfl
@[simp] theorem om_call (f : Str) (a : IEs) : isOmit (.call f a) = false := rfl
@[simp] theorem om_bi (f : Bi) (a : IEs) : isOmit (.bi f a) = false := rfl
variable (Qs : List D → Prop)
@[simp] theorem sq_tup (xs : List D) : seqK L (.tup xs) Qs = Qs xs := rfl
@[simp] theorem sq_lst (xs : List D) : seqK L (.lst xs) Qs = Qs xs := rfl
@[simp] theorem sq_scr (xs : List D) : seqK L (.scr xs) Qs = Qs xs := rfl
theorem sq_obj {L : Hl} {Qs : List D → Prop} {n : Nat} {xs : List D} (h : L[n]? = some (.lst xs)) : seqK L (.obj n) Qs = Qs xs := by unfold seqK; rw [rs_obj h]
@[simp] theorem sd_tup (xs : List D) : seqDK L (.tup xs) Qs = Qs xs := rfl
@[simp] theorem sd_lst (xs : List D) : seqDK L (.lst xs) Qs = Qs xs := rfl
@[simp] theorem sd_dct (t : Bool) (ks vs : List D) : seqDK L (.dct t ks vs) Qs = Qs ks := rfl
theorem sd_obj {L : Hl} {Qs : List D → Prop} {n : Nat} {xs : List D} (h : L[n]? = some (.lst xs)) : seqDK L (.obj n) Qs = Qs xs := by unfold seqDK; rw [rs_obj h]; exact sq_obj h
theorem sd_objd {L : Hl} {Qs : List D → Prop} {n : Nat} {t : Bool} {ks vs : List D} (h : L[n]? = some (.dct t ks vs)) : seqDK L (.obj n) Qs = Qs ks := by unfold seqDK; rw [rs_objd h]
@[simp] theorem bi_len (x : D) : biK .len L [x] Q = lenK L x Q := rfl
@[simp] theorem bi_abs (i : Int) : biK .abs L [.int i] Q = Q (.int (if i < 0 then -i else i)) := rfl
@[simp] theorem bi_int (i : Int) : biK .int L [.int i] Q = Q (.int i) := rfl
@[simp] theorem bi_intb (i : Bool) : biK .int L [.bl i] Q = Q (.int (if i then 1 else 0)) := rfl
@[simp] theorem bi_min (i j : Int) : biK .min L [.int i, .int j] Q = Q (.int (if j < i then j else i)) := rfl
@[simp] theorem bi_max (i j : Int) : biK .max L [.int i, .int j] Q = Q (.int (if j > i then j else i)) := rfl
@[simp] theorem bi_sum (xs : List D) : biK .sum L [.lst xs] Q = ∃ ns, intsOf xs = some ns ∧ Q (.int ns.sum) := rfl
@[simp] theorem bi_all (xs : List D) : biK .all L [.lst xs] Q = ∃ bs, blsOf xs = some bs ∧ Q (.bl (allB bs)) := rfl
@[simp] theorem bi_any (xs : List D) : biK .any L [.lst xs] Q = ∃ bs, blsOf xs = some bs ∧ Q (.bl (anyB bs)) := rfl
@[simp] theorem bi_tuple (x : D) : biK .tuple L [x] Q = seqK L x fun xs => Q (.tup xs) := rfl
@[simp] theorem bi_min1 (y : D) (ys : List D) : biK .min1 L [.lst (y :: ys)] Q = ((alikes (y :: ys) = true ∧ (y :: ys).all (fun z => !isNon z) = true) ∧ Q (leastD y ys)) := rfl
@[simp] theorem bi_max1 (y : D) (ys : List D) : biK .max1 L [.lst (y :: ys)] Q = ((alikes (y :: ys) = true ∧ (y :: ys).all (fun z => !isNon z) = true) ∧ Q (mostD y ys)) := rfl
variable (Qr : Src → Prop)
@[simp] theorem sr_tup (xs : List D) : srcK L (.tup xs) Qr = Qr (.fixed xs) := rfl
@[simp] theorem sr_lst (xs : List D) : srcK L (.lst xs) Qr = Qr (.fixed xs) := rfl
@[simp] theorem sr_scr (xs : List D) : srcK L (.scr xs) Qr = Qr (.fixed xs) := rfl
theorem sr_obj {L : Hl} {Qr : Src → Prop} {n : Nat} {xs : List D} (h : L[n]? = some (.lst xs)) : srcK L (.obj n) Qr = Qr (.live n xs) := by unfold srcK; simp [h]
@[simp] theorem src_items (xs : List D) : (Src.fixed xs).items = xs := rfl
@[simp] theorem src_itemsl (i : Nat) (xs : List D) : (Src.live i xs).items = xs := rfl
theorem bls_map {α : Type} (f : α → Bool) (xs : List α) : blsOf (xs.map fun x => .bl (f x)) = some (xs.map f) := by
  induction xs with
  | nil => rfl
  | cons x xs ih => simp [blsOf, ih]
theorem ints_map' {α : Type} (f : α → Int) (xs : List α) : intsOf (xs.map fun x => .int (f x)) = some (xs.map f) := by
  induction xs with
  | nil => rfl
  | cons x xs ih => simp [intsOf, ih]
theorem lst_at {L : Hl} {n : Nat} {xs : List D} (h : L[n]? = some (.lst xs)) : lstAt L (.obj n) := ⟨xs, rs_obj h⟩
theorem lst_at' {L : Hl} {xs : List D} : lstAt L (.lst xs) := ⟨xs, rfl⟩
theorem set_at {L : Hl} {n : Nat} {xs : List D} {i : Int} {v : D} {Qh : Hl → Prop} {j : Nat} (h : L[n]? = some (.lst xs)) (hi : ixN xs.length i = some j) (q : Qh (L.set n (.lst (xs.set j v)))) : setK L (.obj n) (.int i) v Qh := by
  unfold setK
  simp only [h]
  exact ⟨i, j, rfl, hi, q⟩
theorem setd_at {L : Hl} {n : Nat} {t : Bool} {ks vs : List D} {i v : D} {Qh : Hl → Prop} (h : L[n]? = some (.dct t ks vs)) (hk : keyOk t i = true) (hl : ks.length < sizeLine) (q : Qh (L.set n (.dct t (dputK ks i) (dputV ks vs i v)))) : setK L (.obj n) i v Qh := by
  unfold setK
  simp only [h]
  exact ⟨⟨hk, hl⟩, q⟩
theorem ixN_nat {n k : Nat} (h : k < n) : ixN n (k : Int) = some k := by
  unfold ixN
  rw [if_pos (by omega), if_pos (by omega), Int.toNat_natCast]
end
/-! ### equality of data without truths -/
mutual
/-- no True, no False; at these depths -/
def noB : Nat → D → Bool
  | _, .non => true
  | _, .int _ => true
  | _, .str _ => true
  | n + 1, .tup xs => noBs n xs
  | n + 1, .lst xs => noBs n xs
  | _, _ => false
def noBs : Nat → List D → Bool
  | _, [] => true
  | n, x :: xs => noB n x && noBs n xs
end
theorem noBs_all : ∀ (n : Nat) (xs : List D), noBs n xs = xs.all (noB n)
  | _, [] => by simp [noBs]
  | n, x :: xs => by rw [noBs, List.all_cons, noBs_all n xs]
mutual
theorem eqv_noB : ∀ {n k : Nat} {x y : D}, noB n x = true → noB k y = true → (PyData.eqv (toP x) (toP y) = true ↔ x = y)
  | n, k, .non, y, hx, hy => by cases y <;> first | (cases k <;> simp [noB] at hy; done) | (simp [toP, PyData.eqv]; done)
  | n, k, .int i, y, hx, hy => by cases y <;> first | (cases k <;> simp [noB] at hy; done) | (simp [toP, PyData.eqv]; done)
  | n, k, .str s, y, hx, hy => by cases y <;> first | (cases k <;> simp [noB] at hy; done) | (simp [toP, PyData.eqv]; done)
  | n, k, .tup xs, y, hx, hy => by
    cases n with
    | zero => simp [noB] at hx
    | succ n =>
      cases y <;> first | (cases k <;> simp [noB] at hy; done) | (simp [toP, PyData.eqv]; done) | skip
      cases k with
      | zero => simp [noB] at hy
      | succ k =>
        have := eqvs_noB (xs := xs) (n := n) (k := k) (by simpa only [noB] using hx) (by simpa only [noB] using hy)
        simpa [toP, PyData.eqv] using this
  | n, k, .lst xs, y, hx, hy => by
    cases n with
    | zero => simp [noB] at hx
    | succ n =>
      cases y <;> first | (cases k <;> simp [noB] at hy; done) | (simp [toP, PyData.eqv]; done) | skip
      cases k with
      | zero => simp [noB] at hy
      | succ k =>
        have := eqvs_noB (xs := xs) (n := n) (k := k) (by simpa only [noB] using hx) (by simpa only [noB] using hy)
        simpa [toP, PyData.eqv] using this
  | n, k, .bl _, y, hx, hy => by cases n <;> simp [noB] at hx
  | n, k, .scr _, y, hx, hy => by cases n <;> simp [noB] at hx
  | n, k, .dct _ _ _, y, hx, hy => by cases n <;> simp [noB] at hx
  | n, k, .obj _, y, hx, hy => by cases n <;> simp [noB] at hx
  | n, k, .exc _, y, hx, hy => by cases n <;> simp [noB] at hx
theorem eqvs_noB : ∀ {n k : Nat} {xs ys : List D}, noBs n xs = true → noBs k ys = true → (PyData.eqvAll (toP.toPs xs) (toP.toPs ys) = true ↔ xs = ys)
  | n, k, [], [], _, _ => by simp [toP.toPs, PyData.eqvAll]
  | n, k, [], _ :: _, _, _ => by simp [toP.toPs, PyData.eqvAll]
  | n, k, _ :: _, [], _, _ => by simp [toP.toPs, PyData.eqvAll]
  | n, k, x :: xs, y :: ys, hx, hy => by
    rw [noBs, Bool.and_eq_true] at hx hy
    simp only [toP.toPs, PyData.eqvAll, Bool.and_eq_true, List.cons.injEq]
    rw [eqv_noB hx.1 hy.1, eqvs_noB hx.2 hy.2]
end
theorem deq_iff {n k : Nat} {x y : D} (hx : noB n x = true) (hy : noB k y = true) : deq x y = true ↔ x = y := eqv_noB hx hy
mutual
theorem plain_noB : ∀ {n : Nat} {x : D}, noB n x = true → plain n x = true
  | n, .non, _ => by cases n <;> simp [plain]
  | n, .int _, _ => by cases n <;> simp [plain]
  | n, .str _, _ => by cases n <;> simp [plain]
  | n, .tup xs, h => by
    cases n with
    | zero => simp [noB] at h
    | succ n => rw [plain]; exact plains_noB (by simpa only [noB] using h)
  | n, .lst xs, h => by
    cases n with
    | zero => simp [noB] at h
    | succ n => rw [plain]; exact plains_noB (by simpa only [noB] using h)
  | n, .bl _, h => by cases n <;> simp [noB] at h
  | n, .scr _, h => by cases n <;> simp [noB] at h
  | n, .dct _ _ _, h => by cases n <;> simp [noB] at h
  | n, .obj _, h => by cases n <;> simp [noB] at h
  | n, .exc _, h => by cases n <;> simp [noB] at h
theorem plains_noB : ∀ {n : Nat} {xs : List D}, noBs n xs = true → xs.all (plain n) = true
  | n, [], _ => rfl
  | n, x :: xs, h => by
    rw [noBs, Bool.and_eq_true] at h
    rw [List.all_cons, plain_noB h.1, plains_noB h.2]
    rfl
end
theorem noB_mono : ∀ {n k : Nat} {x : D}, n ≤ k → noB n x = true → noB k x = true := by
  intro n
  induction n with
  | zero => intro k x _ h; cases x <;> first | (simp [noB] at h; done) | (cases k <;> simp [noB])
  | succ n ih =>
    intro k x hk h
    cases x <;> first | (simp [noB] at h; done) | (cases k <;> simp [noB]; done) | skip
    all_goals
      cases k with
      | zero => omega
      | succ k =>
        rw [noB, noBs_all, List.all_eq_true] at h ⊢
        exact fun x hx => ih (by omega) (h x hx)
/-- .. compared -/
theorem c_eqd {L : Hl} {x y : D} {Q : D → Prop} (hx : noB 60 (res L x) = true) (hy : noB 60 (res L y) = true) (p : Prop) [Decidable p] (hp : res L x = res L y ↔ p) (q : Q (.bl (decide p))) : cmpK .eq L x y Q := by
  rw [c_eq0]
  refine ⟨⟨plain_noB hx, plain_noB hy⟩, ?_⟩
  have : deq (res L x) (res L y) = decide p := by
    by_cases h : p
    · rw [decide_eq_true h]; exact (deq_iff hx hy).mpr (hp.mpr h)
    · rw [decide_eq_false h]
      exact Bool.eq_false_iff.mpr fun z => h (hp.mp ((deq_iff hx hy).mp z))
  rw [this]
  exact q
theorem c_ned {L : Hl} {x y : D} {Q : D → Prop} (hx : noB 60 (res L x) = true) (hy : noB 60 (res L y) = true) (p : Prop) [Decidable p] (hp : res L x = res L y ↔ p) (q : Q (.bl (!decide p))) : cmpK .ne L x y Q := by
  rw [c_ne0]
  refine ⟨⟨plain_noB hx, plain_noB hy⟩, ?_⟩
  have : deq (res L x) (res L y) = decide p := by
    by_cases h : p
    · rw [decide_eq_true h]; exact (deq_iff hx hy).mpr (hp.mpr h)
    · rw [decide_eq_false h]
      exact Bool.eq_false_iff.mpr fun z => h (hp.mp ((deq_iff hx hy).mp z))
  rw [this]
  exact q
/-- .. against the empty list -/
theorem c_eqn {L : Hl} {xs : List D} {Q : D → Prop} (hx : xs.all (plain 59) = true) (q : Q (.bl xs.isEmpty)) : cmpK .eq L (.lst xs) (.lst []) Q := by
  rw [c_eq0]
  refine ⟨⟨by rw [rs_lst, plain]; exact hx, rfl⟩, ?_⟩
  have : deq (res L (.lst xs)) (res L (.lst [])) = xs.isEmpty := by
    unfold deq
    cases xs <;> simp [toP, toP.toPs, PyData.eqv, PyData.eqvAll]
  rw [this]
  exact q
theorem c_nen {L : Hl} {xs : List D} {Q : D → Prop} (hx : xs.all (plain 59) = true) (q : Q (.bl (!xs.isEmpty))) : cmpK .ne L (.lst xs) (.lst []) Q := by
  rw [c_ne0]
  refine ⟨⟨by rw [rs_lst, plain]; exact hx, rfl⟩, ?_⟩
  have : deq (res L (.lst xs)) (res L (.lst [])) = xs.isEmpty := by
    unfold deq
    cases xs <;> simp [toP, toP.toPs, PyData.eqv, PyData.eqvAll]
  rw [this]
  exact q
end Nr

/-! Loops; what the laws draw. -/
namespace Nr
open PySem PySem.Spec PyProof.Rows L2
/-! ### loops -/
section
variable {s : Src} {t : D → Hl → (Option D → Hl → Prop) → Prop} {Q : List D → Hl → Prop} {L : Hl}
/-- a comprehension over data of one kind, the heap stays -/
theorem lcR_t {α : Type} {enc : α → D} {f : α → Option D} (xs : List α) (hok : s.ok L) (hl : xs.length ≤ sizeLine) (ht : ∀ a ∈ xs, ∀ k : Option D → Hl → Prop, k (f a) L → t (enc a) L k) (h : Q (xs.filterMap f) L) : lcR s t Q (xs.map enc) [] L := by
  have : ∀ (ys : List α) (acc : List D), acc.length + ys.length ≤ sizeLine → (∀ a ∈ ys, ∀ k : Option D → Hl → Prop, k (f a) L → t (enc a) L k) → Q (acc ++ ys.filterMap f) L → lcR s t Q (ys.map enc) acc L := by
    intro ys
    induction ys with
    | nil => exact fun acc _ _ h => ⟨hok, by simpa using h⟩
    | cons y ys ih =>
      intro acc hl ht h
      simp at hl
      refine ⟨hok, ht y List.mem_cons_self _ ?_⟩
      cases e : f y with
      | none =>
        rw [List.filterMap_cons, e] at h
        exact ih acc (by omega) (fun a ha => ht a (List.mem_cons_of_mem _ ha)) h
      | some z =>
        rw [List.filterMap_cons, e] at h
        exact ⟨by omega, ih (acc ++ [z]) (by simp; omega) (fun a ha => ht a (List.mem_cons_of_mem _ ha)) (by simpa using h)⟩
  exact this xs [] (by simpa using hl) ht (by simpa using h)
theorem lcR_m {α : Type} {enc f : α → D} (xs : List α) (hok : s.ok L) (hl : xs.length ≤ sizeLine) (ht : ∀ a ∈ xs, ∀ k : Option D → Hl → Prop, k (some (f a)) L → t (enc a) L k) (h : Q (xs.map f) L) : lcR s t Q (xs.map enc) [] L :=
  lcR_t (f := fun a => some (f a)) xs hok hl ht (by rw [List.filterMap_eq_map']; exact h)
/-- a comprehension that changes the heap -/
theorem lcR_i (I : Nat → List D → Hl → Prop) (items : List D) (h0 : I 0 [] L) (hs : ∀ (i : Nat) (x : D) (acc : List D) (L : Hl), items[i]? = some x → I i acc L → s.ok L ∧ acc.length < sizeLine ∧ ∀ k : Option D → Hl → Prop, (∀ y L', I (i + 1) (acc ++ [y]) L' → k (some y) L') → (∀ L', I (i + 1) acc L' → k none L') → t x L k) (hd : ∀ acc L, I items.length acc L → s.ok L ∧ Q acc L) : lcR s t Q items [] L := by
  have : ∀ (r : List D) (i : Nat) (acc : List D) (L : Hl), items.drop i = r → I i acc L → i ≤ items.length → lcR s t Q r acc L := by
    intro r
    induction r with
    | nil =>
      intro i acc L e h hi
      have : i = items.length := by
        have := congrArg List.length e
        simp at this
        omega
      subst this
      exact hd acc L h
    | cons x r ih =>
      intro i acc L e h hi
      have hx : items[i]? = some x := by
        have : (items.drop i)[0]? = some x := by rw [e]; rfl
        simpa using this
      have hlt := (List.getElem?_eq_some_iff.mp hx).1
      obtain ⟨ok, hl, step⟩ := hs i x acc L hx h
      have e2 : items.drop (i + 1) = r := by
        have : (items.drop i).drop 1 = r := by rw [e]; rfl
        rw [List.drop_drop] at this
        exact this
      exact ⟨ok, step _ (fun y L' hI => ⟨hl, ih (i + 1) _ L' e2 hI hlt⟩) fun L' hI => ih (i + 1) _ L' e2 hI hlt⟩
  exact this items 0 [] L rfl h0 (Nat.zero_le _)
/-- two clauses -/
theorem lcR2_t {α : Type} {enc : α → D} {t2 : D → List D → Hl → (List D → Hl → Prop) → Prop} (g : α → List D) (xs : List α) (hok : s.ok L) (hl : (xs.flatMap g).length ≤ sizeLine) (ht : ∀ a ∈ xs, ∀ (acc : List D) (k : List D → Hl → Prop), acc.length + (g a).length ≤ sizeLine → k (acc ++ g a) L → t2 (enc a) acc L k) (h : Q (xs.flatMap g) L) : lcR2 s t2 Q (xs.map enc) [] L := by
  have : ∀ (ys : List α) (acc : List D), acc.length + (ys.flatMap g).length ≤ sizeLine → (∀ a ∈ ys, ∀ (acc : List D) (k : List D → Hl → Prop), acc.length + (g a).length ≤ sizeLine → k (acc ++ g a) L → t2 (enc a) acc L k) → Q (acc ++ ys.flatMap g) L → lcR2 s t2 Q (ys.map enc) acc L := by
    intro ys
    induction ys with
    | nil => exact fun acc _ _ h => ⟨hok, by simpa using h⟩
    | cons y ys ih =>
      intro acc hl ht h
      simp only [List.flatMap_cons, List.length_append] at hl
      refine ⟨hok, ht y List.mem_cons_self _ _ (by omega) (ih _ (by simp only [List.length_append]; omega) (fun a ha => ht a (List.mem_cons_of_mem _ ha)) (by simpa using h))⟩
  exact this xs [] (by simpa using hl) ht (by simpa using h)
/-- .. the inner one, with what stands already -/
theorem lcR_acc {α : Type} {enc : α → D} {f : α → Option D} (xs : List α) (acc : List D) (hok : s.ok L) (hl : acc.length + (xs.filterMap f).length ≤ sizeLine) (ht : ∀ a ∈ xs, ∀ k : Option D → Hl → Prop, k (f a) L → t (enc a) L k) (h : Q (acc ++ xs.filterMap f) L) : lcR s t Q (xs.map enc) acc L := by
  induction xs generalizing acc with
  | nil => exact ⟨hok, by simpa using h⟩
  | cons y ys ih =>
    refine ⟨hok, ht y List.mem_cons_self _ ?_⟩
    cases e : f y with
    | none =>
      rw [List.filterMap_cons, e] at h hl
      exact ih acc hl (fun a ha => ht a (List.mem_cons_of_mem _ ha)) h
    | some z =>
      rw [List.filterMap_cons, e] at h hl
      simp at hl
      exact ⟨by omega, ih (acc ++ [z]) (by simp; omega) (fun a ha => ht a (List.mem_cons_of_mem _ ha)) (by simpa using h)⟩
end
/-- a for without return: an invariant -/
theorem forR_i {t : D → DN → Ds → Hl → Prop} {N : DN} {s : Src} (I : Nat → Ds → Hl → Prop) (items : List D) {ds : Ds} {L : Hl} (h0 : I 0 ds L) (hs : ∀ (i : Nat) (x : D) (ds : Ds) (L : Hl), items[i]? = some x → I i ds L → s.ok L ∧ ∀ M : DN, (∀ ds' L', I (i + 1) ds' L' → M.nx ds' L') → (∀ ds' L', I (i + 1) ds' L' → M.ct ds' L') → M.rt = N.rt → M.bk = N.nx → t x M ds L) (hd : ∀ ds L, I items.length ds L → s.ok L ∧ N.nx ds L) : forR s t N items ds L := by
  have : ∀ (r : List D) (i : Nat) (ds : Ds) (L : Hl), items.drop i = r → I i ds L → i ≤ items.length → forR s t N r ds L := by
    intro r
    induction r with
    | nil =>
      intro i ds L e h hi
      have : i = items.length := by
        have := congrArg List.length e
        simp at this
        omega
      subst this
      exact hd ds L h
    | cons x r ih =>
      intro i ds L e h hi
      have hx : items[i]? = some x := by
        have : (items.drop i)[0]? = some x := by rw [e]; rfl
        simpa using this
      have hlt := (List.getElem?_eq_some_iff.mp hx).1
      obtain ⟨ok, step⟩ := hs i x ds L hx h
      have e2 : items.drop (i + 1) = r := by
        have : (items.drop i).drop 1 = r := by rw [e]; rfl
        rw [List.drop_drop] at this
        exact this
      exact ⟨ok, step _ (fun ds' L' hI => ih (i + 1) _ L' e2 hI hlt) (fun ds' L' hI => ih (i + 1) _ L' e2 hI hlt) rfl rfl⟩
  exact this items 0 ds L rfl h0 (Nat.zero_le _)
/-- a while: an invariant, a measure -/
theorem whileR_i {c : Ds → Hl → (Bool → Hl → Prop) → Prop} {t : DN → Ds → Hl → Prop} {N : DN} (I : Ds → Hl → Prop) (μ : Ds → Hl → Nat) (hs : ∀ ds L, I ds L → c ds L fun b L1 => if b = true then ∀ M : DN, (∀ ds' L', I ds' L' → μ ds' L' < μ ds L → M.nx ds' L') → (∀ ds' L', I ds' L' → μ ds' L' < μ ds L → M.ct ds' L') → M.rt = N.rt → M.bk = N.nx → t M ds L1 else N.nx ds L1)
    (hc : ∀ ds L (k k' : Bool → Hl → Prop), (∀ b L1, k b L1 → k' b L1) → c ds L k → c ds L k') : ∀ (n : Nat) (ds : Ds) (L : Hl), I ds L → μ ds L < n → whileR c t N n ds L
  | 0, _, _, _, h => absurd h (Nat.not_lt_zero _)
  | n + 1, ds, L, hI, h => by
    unfold whileR
    refine hc ds L _ _ (fun b L1 q => ?_) (hs ds L hI)
    by_cases hb : b = true
    · rw [if_pos hb] at q ⊢
      exact q _ (fun ds' L' hI' hm => whileR_i I μ hs hc n ds' L' hI' (by omega)) (fun ds' L' hI' hm => whileR_i I μ hs hc n ds' L' hI' (by omega)) rfl rfl
    · rw [if_neg hb] at q ⊢
      exact q
theorem rng_map (a b : Int) : rngD a b = (List.range (b - a).toNat).map fun i => .int (a + (i : Nat)) := rfl
theorem rng0 (n : Nat) : rngD 0 (n : Int) = (List.range n).map fun i => .int (i : Nat) := by simp [rngD]
theorem smallR_of {i : Int} (h1 : -1000000000 ≤ i) (h2 : i ≤ 1000000000) : smallR i := ⟨by omega, by omega⟩
/-! ### sizes of products -/
theorem log2_lt {b : Int} {k : Nat} (h0 : 0 < b) (h : b < 2 ^ k) : b.natAbs.log2 < k := by
  have h1 : b.natAbs < 2 ^ k := by
    have : ((b.natAbs : Nat) : Int) < ((2 ^ k : Nat) : Int) := by
      rw [Int.natAbs_of_nonneg (by omega)]
      simpa using h
    exact_mod_cast this
  exact (Nat.log2_lt (by omega)).mpr h1
theorem mul_small {i j : Int} (h1 : -(2 ^ 64) < i) (h2 : i < 2 ^ 64) : mulOk i j := .inl (.inl ⟨h1, h2⟩)
theorem mul_smallR {i j : Int} (h1 : -(2 ^ 64) < j) (h2 : j < 2 ^ 64) : mulOk i j := .inl (.inr ⟨h1, h2⟩)
theorem mul_wide {i j : Int} {a b : Nat} (h0 : 0 ≤ i) (h1 : i < 2 ^ a) (g0 : 0 ≤ j) (g1 : j < 2 ^ b) (hs : a + b < 1000000) : mulOk i j := by
  refine .inr ?_
  have f : ∀ (x : Int) (k : Nat), 0 ≤ x → x < 2 ^ k → x.natAbs.log2 ≤ k := fun x k h0 h => by
    by_cases e : x = 0
    · subst e; simp
    · exact Nat.le_of_lt (log2_lt (by omega) h)
  have := f i a h0 h1
  have := f j b g0 g1
  unfold CMulW
  omega
theorem div_okm {x m : Int} (m1 : 1 ≤ m) (m2 : m < 2 ^ 1000) : CDivW x m := ⟨by omega, Nat.lt_trans (log2_lt (k := 1000) (by omega) m2) (by decide)⟩
theorem p10 : powC 10 18 ∧ powC 10 40 ∧ powC 10 41 ∧ powC 10 38 ∧ powC 10 9 := by unfold powC; decide
/-! ### feeds -/
def Fd (B : Int) (o : O) : Prop := ∃ u v w : Int, o = .lst [.int u, .int v, .int w] ∧ 0 ≤ u ∧ (0 ≤ v ∧ v < 2 ^ 140) ∧ (0 ≤ w ∧ w ≤ B)
theorem Fd.mono {B C : Int} {o : O} (h : Fd B o) (hB : B ≤ C) : Fd C o := by
  obtain ⟨u, v, w, h1, h2, h3, h4, h5⟩ := h
  exact ⟨u, v, w, h1, h2, h3, h4, by omega⟩
/-- at i stands a feed of which so many draws were made at most -/
def feedAt (L : Hl) (i : Nat) (B : Int) : Prop := ∃ o, L[i]? = some o ∧ Fd B o ∧ B ≤ 100000000
theorem feed_get {L : Hl} {i : Nat} {B : Int} (h : feedAt L i B) : ∃ u v w : Int, L[i]? = some (.lst [.int u, .int v, .int w]) ∧ 0 ≤ u ∧ (0 ≤ v ∧ v < 2 ^ 140) ∧ (0 ≤ w ∧ w ≤ B) ∧ B ≤ 100000000 := by
  obtain ⟨o, h1, ⟨u, v, w, rfl, h2, h3, h4⟩, h5⟩ := h
  exact ⟨u, v, w, h1, h2, h3, h4, h5⟩
theorem get_set {L : Hl} {i : Nat} {o o' : O} (h : L[i]? = some o) : (L.set i o')[i]? = some o' := List.getElem?_set_self (List.getElem?_eq_some_iff.mp h).1
theorem feed_set {L : Hl} {i : Nat} {B C : Int} {o' : O} (h : feedAt L i B) (h' : Fd C o') (hC : C ≤ 100000000) : feedAt (L.set i o') i C := by
  obtain ⟨o, h1, _⟩ := h
  exact ⟨o', get_set h1, h', hC⟩
theorem feed_lt {L : Hl} {i : Nat} {B : Int} (h : feedAt L i B) : i < L.length := by
  obtain ⟨o, h1, _⟩ := h
  exact (List.getElem?_eq_some_iff.mp h1).1
theorem feed_app {L R : Hl} {i : Nat} {B : Int} (h : feedAt L i B) : feedAt (L ++ R) i B := by
  obtain ⟨o, h1, h2⟩ := h
  exact ⟨o, by rw [List.getElem?_append_left (List.getElem?_eq_some_iff.mp h1).1]; exact h1, h2⟩
theorem Fd.nonum {B : Int} {o : O} (h : Fd B o) : o.nonum = true := by
  obtain ⟨u, v, w, rfl, _⟩ := h
  rfl
def c_feed : Ct := fun xs L Q E => ∃ (ns : List Int) (k : Int), xs = [.scr (ns.map .int), .int k] ∧ (ns.length ≤ 63 ∧ 0 ≤ k ∧ k ≤ 1000) ∧ ∀ o, Fd 0 o → Q (.obj L.length) (L ++ [o])
def c_draw : Ct := fun xs L Q E => ∃ (i : Nat) (B m : Int), xs = [.obj i, .int m] ∧ feedAt L i B ∧ (1 ≤ m ∧ m < 2 ^ 1000) ∧ ∀ r o', 0 ≤ r → r < m → Fd (B + 1) o' → Q (.int r) (L.set i o')
theorem draw_bounds (a : Int) (ha : 0 ≤ a) (ha' : a < 2 ^ 30) (w : Int) (hw : 0 ≤ w) (hw' : w ≤ 100000001) : 0 ≤ a * w ∧ a * w < 2 ^ 60 := by
  refine ⟨Int.mul_nonneg ha hw, ?_⟩
  have : a * w ≤ 2 ^ 30 * 100000001 := Int.mul_le_mul (by omega) hw' hw (by decide)
  omega
theorem b_draw {Φ : Phi} {p0 p1 p2 p3 : Int} (hp0 : 0 ≤ p0 ∧ p0 < 2 ^ 30) (hp1 : 0 ≤ p1 ∧ p1 < 2 ^ 30) {n : Nat} {xs : List D} {L : Hl} {Q : QE} {E : XH} (h : lv 1 c_draw n xs L Q E) : xs.length = 2 ∧ bodyK Φ 4 (P.ir_law_draw p0 p1 p2 p3) xs L Q E := by
  obtain ⟨_, i, B, m, rfl, hf, ⟨m1, m2⟩, h⟩ := h
  obtain ⟨u, v, w, hL, hu, ⟨v1, v2⟩, ⟨w1, w2⟩, hB⟩ := feed_get hf
  refine ⟨rfl, ?_⟩
  have hm : ∀ x, CDivW x m := fun x => div_okm m1 m2
  obtain ⟨w3, w4⟩ := draw_bounds p0 hp0.1 hp0.2 (w + 1) (by omega) (by omega)
  unfold bodyK P.ir_law_draw
  simp only [s_cons', s_ite', s_asg', s_seti', s_ret', s_nil', v_cmp, v_idx, v_var, v_int, v_bin, v_bi, v_cons, v_nil, g_n, startD, List.map_cons, List.map_nil, List.length_cons, List.length_nil]
  refine ⟨_, rfl, ?_⟩
  rw [ix_obj hL]
  refine ⟨_, rfl, ?_⟩
  rw [c_gt', tr_bl]
  by_cases h0 : 0 < u
  · rw [if_pos (by simpa using h0)]
    refine ⟨_, rfl, ?_⟩
    rw [ix_obj hL]
    refine ⟨_, rfl, ?_⟩
    rw [bi_int]
    refine ⟨_, rfl, ?_⟩
    rw [b_mod]
    refine ⟨by omega, _, rfl, ?_⟩
    rw [ix_obj hL]
    refine ⟨_, rfl, _, rfl, ?_⟩
    rw [b_fdiv]
    refine ⟨hm _, _, rfl, ?_⟩
    refine set_at hL (j := 0) rfl ⟨_, rfl, fin_same (h _ _ (Int.emod_nonneg _ (by omega)) (Int.emod_lt_of_pos _ (by omega)) ⟨_, _, _, rfl, Int.ediv_nonneg hu (by omega), ⟨v1, v2⟩, w1, by omega⟩)⟩
  · rw [if_neg (by simpa using h0)]
    refine ⟨_, rfl, ?_⟩
    rw [ix_obj hL]
    refine ⟨_, rfl, ?_⟩
    rw [b_addi]
    refine ⟨_, rfl, ?_⟩
    have hL2 : (L.set i (.lst [.int u, .int v, .int (w + 1)]))[i]? = some (.lst [.int u, .int v, .int (w + 1)]) := get_set hL
    refine set_at hL (j := 2) rfl ?_
    show ∃ d, _
    refine ⟨_, rfl, ?_⟩
    simp only [List.set_cons_succ, List.set_cons_zero]
    rw [ix_obj hL2]
    refine ⟨_, rfl, _, rfl, ?_⟩
    rw [ix_obj hL2]
    refine ⟨_, rfl, ?_⟩
    rw [b_mul']
    refine ⟨mul_small (by omega) (by omega), ?_⟩
    rw [b_addi]
    generalize hs : v + p0 * (w + 1) = s
    have s1 : 0 ≤ s := by omega
    have s2 : s < 2 ^ 141 := by omega
    refine ⟨_, rfl, _, rfl, ?_⟩
    rw [b_mul']
    refine ⟨mul_wide s1 s2 s1 s2 (by decide), _, rfl, ?_⟩
    rw [b_mul']
    have ss0 : 0 ≤ s * s := Int.mul_nonneg s1 s1
    have ss : s * s < 2 ^ 282 := by
      have : s * s < 2 ^ 141 * 2 ^ 141 := by
        rcases Int.lt_or_le 0 s with z | z
        · exact Int.mul_lt_mul s2 (Int.le_of_lt s2) z (by decide)
        · have : s = 0 := by omega
          subst this
          decide
      exact this
    refine ⟨mul_wide ss0 ss s1 s2 (by decide), _, rfl, ?_⟩
    rw [ix_obj hL2]
    refine ⟨_, rfl, ?_⟩
    rw [b_mul']
    refine ⟨mul_small (by omega) (by omega), ?_⟩
    rw [b_addi, b_addi, bi_int, b_pow]
    refine ⟨p10.2.2.1, ?_⟩
    rw [b_addi, b_mod]
    refine ⟨by decide, ?_⟩
    generalize hq : (s * s * s + p1 * (w + 1) + p2) % ((10 : Int) ^ (41 : Int).toNat + 81) = q
    have q1 : 0 ≤ q := by rw [← hq]; exact Int.emod_nonneg _ (by decide)
    have q2 : q < 2 ^ 141 := by
      rw [← hq]
      exact Int.lt_trans (Int.emod_lt_of_pos _ (by decide)) (by decide)
    refine ⟨_, rfl, _, rfl, ?_⟩
    rw [b_mul']
    refine ⟨mul_wide q1 q2 q1 q2 (by decide), ?_⟩
    rw [b_addi, bi_int, b_pow]
    refine ⟨p10.2.2.2.1, ?_⟩
    rw [b_addi, b_mod]
    refine ⟨by decide, _, rfl, ?_⟩
    rw [b_pow]
    refine ⟨p10.2.2.2.2, ?_⟩
    rw [b_fdiv]
    refine ⟨⟨by decide, by decide⟩, ?_⟩
    rw [bi_int]
    refine ⟨_, rfl, ?_⟩
    rw [b_mod]
    refine ⟨by omega, fin_same (h _ _ (Int.emod_nonneg _ (by omega)) (Int.emod_lt_of_pos _ (by omega)) ⟨_, _, _, rfl, hu, ⟨v1, v2⟩, by omega, by omega⟩)⟩
theorem cut_map (ns : List Int) (lo hi : Option Int) : cutD (ns.map .int) lo hi = (((ns.drop (HT.sIx ns.length 0 lo)).take (HT.sIx ns.length ns.length hi - HT.sIx ns.length 0 lo)).map .int) := by
  simp [cutD, List.map_take, List.map_drop]
theorem b_feed {Φ : Phi} {p0 p1 p2 p3 p4 p5 : Int} (hp : (0 ≤ p0 ∧ p0 < 2 ^ 30) ∧ (0 ≤ p1 ∧ p1 < 2 ^ 30) ∧ (0 ≤ p3 ∧ p3 < 2 ^ 30) ∧ (0 ≤ p4 ∧ p4 < 2 ^ 30)) {n : Nat} {xs : List D} {L : Hl} {Q : QE} {E : XH} (h : lv 1 c_feed n xs L Q E) : xs.length = 2 ∧ bodyK Φ 3 (P.ir_law_feed p0 p1 p2 p3 p4 p5) xs L Q E := by
  obtain ⟨_, ns, k, rfl, ⟨hl, hk, hk2⟩, h⟩ := h
  obtain ⟨⟨a1, a2⟩, ⟨b1, b2⟩, ⟨c1, c2⟩, ⟨d1, d2⟩⟩ := hp
  refine ⟨rfl, ?_⟩
  unfold bodyK P.ir_law_feed
  simp only [s_cons', s_ite', s_asg', s_seti', s_ret', s_nil', v_cmp, v_idx, v_var, v_int, v_bin, v_bi, v_cons, v_nil, v_newl, v_slc, f_disp', g_n, startD, List.map_cons, List.map_nil, List.length_cons, List.length_nil]
  refine ⟨_, rfl, ?_⟩
  rw [b_mul']
  refine ⟨mul_small (by omega) (by omega), _, rfl, ?_⟩
  rw [om_omit, om_int, pt_t, pt_f, v_int, opt_int, sl_scr, cut_map, bi_sum]
  refine ⟨_, by rw [show D.int = fun x => D.int x from rfl, ints_map' (fun x => x)], ?_⟩
  rw [b_mul']
  refine ⟨mul_small (by omega) (by omega), ?_⟩
  rw [b_addi]
  generalize (p0 * k + p1 * _) = cc
  refine ⟨_, rfl, _, rfl, ?_⟩
  rw [bi_len, ln_scr, c_lt', tr_bl]
  have rest : ∀ c : Int, (∃ d, ([some (D.scr (ns.map D.int)), some (.int k), some (.int c)] : Ds)[2]? = some (some d) ∧ binK .pow L (.int 10) (.int 18) fun z => binK .sub L d z fun z => biK .max L [.int 0, z] fun z =>
      ∃ d, ([some (D.scr (ns.map D.int)), some (.int k), some (.int c)] : Ds)[2]? = some (some d) ∧ binK .mul L d (.int p3) fun z_1 => ∃ d, ([some (D.scr (ns.map D.int)), some (.int k), some (.int c)] : Ds)[1]? = some (some d) ∧ binK .mul L (.int p4) d fun z_2 => binK .add L z_1 z_2 fun z_1 => binK .add L z_1 (.int p5) fun z_1 => biK .int L [z_1] fun z_1 =>
      binK .pow L (.int 10) (.int 40) fun z_2 => binK .add L z_2 (.int 121) fun z_2 => binK .mod L z_1 z_2 fun z_1 => ([z, z_1, .int 0] : List D).length ≤ sizeLine ∧ Nr.Fin L Q (.obj L.length) (L ++ [.lst [z, z_1, .int 0]])) := by
    intro c
    refine ⟨_, rfl, ?_⟩
    rw [b_pow]
    refine ⟨p10.1, ?_⟩
    rw [b_sub, bi_max]
    refine ⟨_, rfl, ?_⟩
    rw [b_mul']
    refine ⟨mul_smallR (by omega) (by omega), _, rfl, ?_⟩
    rw [b_mul']
    refine ⟨mul_small (by omega) (by omega), ?_⟩
    rw [b_addi, b_addi, bi_int, b_pow]
    refine ⟨p10.2.1, ?_⟩
    rw [b_addi, b_mod]
    refine ⟨by decide, ?_, fin_same (h _ ⟨_, _, _, rfl, ?_, ⟨Int.emod_nonneg _ (by decide), ?_⟩, by omega, by omega⟩)⟩
    · show (3 : Nat) ≤ sizeLine
      decide
    · split <;> omega
    · exact Int.lt_trans (Int.emod_lt_of_pos _ (by decide)) (by decide)
  by_cases hlt : k < (ns.map D.int).length
  · rw [if_pos (by simpa using hlt)]
    refine ⟨_, rfl, _, rfl, ?_⟩
    rw [ix_scr]
    obtain ⟨j, rfl⟩ : ∃ j : Nat, k = j := ⟨k.toNat, by omega⟩
    have hj : j < (ns.map D.int).length := by omega
    refine ⟨_, (atI_nat hj).trans (List.getElem?_eq_getElem hj), ?_⟩
    rw [List.getElem_map]
    exact rest _
  · rw [if_neg (by simpa using hlt)]
    exact rest _
/-! ### dicts as sets -/
section
variable {α : Type} [DecidableEq α]
def addNew (l : List α) (a : α) : List α := if a ∈ l then l else l ++ [a]
/-- each once, as they first stand -/
def uniq (zs : List α) : List α := zs.foldl addNew []
theorem addNew_mem {l : List α} {a b : α} : b ∈ addNew l a ↔ b ∈ l ∨ b = a := by
  unfold addNew
  split
  · rename_i h
    exact ⟨.inl, fun z => z.elim id fun e => e ▸ h⟩
  · simp
theorem addNew_nodup {l : List α} {a : α} (h : l.Nodup) : (addNew l a).Nodup := by
  unfold addNew
  split
  · exact h
  · rename_i hn
    rw [List.nodup_append]
    exact ⟨h, by simp, fun x hx y hy e => by simp at hy; subst hy; subst e; exact hn hx⟩
theorem fold_nodup : ∀ (zs l : List α), l.Nodup → (zs.foldl addNew l).Nodup
  | [], l, h => h
  | z :: zs, l, h => fold_nodup zs _ (addNew_nodup h)
theorem fold_mem' : ∀ (zs l : List α) (b : α), b ∈ zs.foldl addNew l ↔ b ∈ l ∨ b ∈ zs
  | [], l, b => by simp
  | z :: zs, l, b => by
    rw [List.foldl_cons, fold_mem' zs, addNew_mem, List.mem_cons]
    exact or_assoc
theorem uniq_nodup (zs : List α) : (uniq zs).Nodup := fold_nodup zs [] List.nodup_nil
theorem uniq_mem {zs : List α} {b : α} : b ∈ uniq zs ↔ b ∈ zs := by
  unfold uniq
  rw [fold_mem']
  simp
theorem fold_len : ∀ (zs l : List α), l.Nodup → (zs.foldl addNew l).length ≤ l.length + zs.length ∧ ((zs.foldl addNew l).length = l.length + zs.length ↔ (l ++ zs).Nodup)
  | [], l, h => by simpa using h
  | z :: zs, l, h => by
    rw [List.foldl_cons]
    obtain ⟨h1, h2⟩ := fold_len zs (addNew l z) (addNew_nodup h)
    by_cases hz : z ∈ l
    · have e : addNew l z = l := if_pos hz
      rw [e] at h1 h2 ⊢
      refine ⟨by simp; omega, ⟨fun q => by simp at q; omega, fun q => ?_⟩⟩
      rw [List.nodup_append] at q
      exact absurd rfl (q.2.2 z hz z List.mem_cons_self)
    · have e : addNew l z = l ++ [z] := if_neg hz
      rw [e] at h1 h2 ⊢
      simp only [List.length_append, List.length_cons, List.length_nil] at h1 h2 ⊢
      refine ⟨by omega, ?_⟩
      rw [show l.length + (zs.length + 1) = l.length + (0 + 1) + zs.length by omega, h2, List.append_assoc]
      rfl
theorem uniq_len (zs : List α) : (uniq zs).length ≤ zs.length ∧ ((uniq zs).length = zs.length ↔ zs.Nodup) := by
  have := fold_len zs [] List.nodup_nil
  simpa [uniq] using this
theorem uniq_self {zs : List α} (h : zs.Nodup) : uniq zs = zs := by
  have : ∀ (zs l : List α), (l ++ zs).Nodup → zs.foldl addNew l = l ++ zs := by
    intro zs
    induction zs with
    | nil => intro l _; simp
    | cons z zs ih =>
      intro l h
      have hz : z ∉ l := fun hm => by
        rw [List.nodup_append] at h
        exact h.2.2 z hm z List.mem_cons_self rfl
      rw [List.foldl_cons, show addNew l z = l ++ [z] from if_neg hz, ih _ (by simpa using h)]
      simp
  simpa [uniq] using this zs [] (by simpa using h)
variable {enc : α → D}
/-- keys that are told apart as their codes are -/
def KeyEnc (enc : α → D) : Prop := ∀ a b, keq (enc a) (enc b) = decide (a = b)
theorem dputK_enc (he : KeyEnc enc) (a : α) : ∀ l : List α, dputK (l.map enc) (enc a) = (addNew l a).map enc
  | [] => rfl
  | b :: l => by
    rw [List.map_cons, dputK, he b a]
    by_cases h : b = a
    · rw [decide_eq_true h, if_pos rfl]
      unfold addNew
      rw [if_pos (by rw [h]; exact List.mem_cons_self)]
      simp
    · rw [decide_eq_false h, if_neg Bool.false_ne_true, dputK_enc he a l]
      unfold addNew
      by_cases hm : a ∈ l
      · rw [if_pos hm, if_pos (List.mem_cons_of_mem _ hm)]
        simp
      · rw [if_neg hm, if_neg (fun z => (List.mem_cons.mp z).elim (fun e => h e.symm) hm)]
        simp
theorem dputV_len : ∀ (ks vs : List D) (k z : D), ks.length = vs.length → (dputV ks vs k z).length = (dputK ks k).length
  | [], [], k, z, _ => rfl
  | a :: ks, v :: vs, k, z, h => by
    unfold dputV dputK
    split
    · simpa using h.symm
    · simp only [List.length_cons]
      rw [dputV_len ks vs k z (by simpa using h)]
  | [], _ :: _, _, _, h => by simp at h
  | _ :: _, [], _, _, h => by simp at h
theorem dhas_enc (he : KeyEnc enc) (l : List α) (a : α) : dhas (l.map enc) (enc a) = decide (a ∈ l) := by
  unfold dhas
  rw [List.any_map]
  induction l with
  | nil => simp
  | cons b l ih =>
    simp only [List.any_cons, Function.comp_apply, he b a] at ih ⊢
    rw [ih]
    by_cases h : b = a
    · simp [h]
    · have : ¬ a = b := fun e => h e.symm
      simp [h, this]
/-- a dict comprehension whose values nobody asks for -/
theorem dcR_set {β : Type} {eb : β → D} {kf : β → α} {t : Bool} {s : Src} {tt : D → Hl → (Option (D × D) → Hl → Prop) → Prop} {Q : List D → List D → Hl → Prop} {L : Hl} (he : KeyEnc enc) (xs : List β) (hok : s.ok L) (hk : ∀ b ∈ xs, keyOk t (enc (kf b)) = true) (hl : xs.length ≤ sizeLine)
    (ht : ∀ b ∈ xs, ∀ k : Option (D × D) → Hl → Prop, (∀ v, k (some (enc (kf b), v)) L) → tt (eb b) L k) (h : ∀ vs : List D, vs.length = (uniq (xs.map kf)).length → Q ((uniq (xs.map kf)).map enc) vs L) : dcR t s tt Q (xs.map eb) [] [] L := by
  have : ∀ (ys : List β) (l : List α) (vs : List D), vs.length = l.length → l.length + ys.length ≤ sizeLine → (∀ b ∈ ys, keyOk t (enc (kf b)) = true) → (∀ b ∈ ys, ∀ k : Option (D × D) → Hl → Prop, (∀ v, k (some (enc (kf b), v)) L) → tt (eb b) L k) →
      (∀ vs : List D, vs.length = ((ys.map kf).foldl addNew l).length → Q (((ys.map kf).foldl addNew l).map enc) vs L) → dcR t s tt Q (ys.map eb) (l.map enc) vs L := by
    intro ys
    induction ys with
    | nil => exact fun l vs h1 _ _ _ h => ⟨hok, h vs h1⟩
    | cons y ys ih =>
      intro l vs h1 hl hk ht h
      simp only [List.length_cons] at hl
      refine ⟨hok, ht y List.mem_cons_self _ fun v => ⟨⟨hk y List.mem_cons_self, by rw [List.length_map]; omega⟩, ?_⟩⟩
      rw [dputK_enc he]
      refine ih _ _ ?_ ?_ (fun b hb => hk b (List.mem_cons_of_mem _ hb)) (fun b hb => ht b (List.mem_cons_of_mem _ hb)) h
      · rw [dputV_len _ _ _ _ (by simpa using h1.symm), dputK_enc he, List.length_map]
      · have : (addNew l (kf y)).length ≤ l.length + 1 := by unfold addNew; split <;> simp
        omega
  exact this xs [] [] rfl (by simpa using hl) hk ht h
end
theorem keyEnc_int : KeyEnc D.int := fun a b => by
  unfold keq
  simp only [nkey, NestedKey.num.injEq]
end Nr

/-! Turnings: what the functions tell. -/
namespace Nr
open PySem PySem.Spec PyProof.Rows L2
/-- a value whose class is known -/
def ty : D → Bool
  | .obj _ => false
  | .exc _ => false
  | _ => true
def isI (a b : Int) : D → Bool
  | .int i => decide (a ≤ i) && decide (i ≤ b)
  | _ => false
def c_is_integer : Ct := fun xs L Q E => ∃ x a b, xs = [x, .int a, .int b] ∧ ty x = true ∧ Q (.bl (isI a b x)) L
theorem b_is_integer {Φ : Phi} {n : Nat} {xs : List D} {L : Hl} {Q : QE} {E : XH} (h : lv 1 c_is_integer n xs L Q E) : xs.length = 3 ∧ bodyK Φ 3 P.iris_integer xs L Q E := by
  obtain ⟨_, x, a, b, rfl, hx, h⟩ := h
  refine ⟨rfl, ?_⟩
  unfold bodyK P.iris_integer
  cases x <;> first | (cases hx; done) | skip
  all_goals simp [startD, tnIs]
  all_goals try exact fin_same h
  rename_i i
  by_cases h1 : a ≤ i <;> simp [h1, isI] at h ⊢ <;> exact fin_same h
/-! ### what the laws share -/
def seqAt (L : Hl) (i : Nat) (T : D) (ts : List D) : Prop := T = .lst ts ∨ T = .tup ts ∨ ∃ p, p ≠ i ∧ T = .obj p ∧ L[p]? = some (.lst ts)
def c_one : Ct := fun xs L Q E => ∃ (i : Nat) (B : Int) (T : D) (ts : List D), xs = [.obj i, T] ∧ feedAt L i B ∧ seqAt L i T ts ∧ (ts ≠ [] ∧ ts.length ≤ 100000) ∧ ∀ x ∈ ts, ∀ o', Fd (B + 1) o' → Q x (L.set i o')
theorem b_one {S : Specs} (h1 : Has S "_law_draw" (lv 1 c_draw)) {n : Nat} {xs : List D} {L : Hl} {Q : QE} {E : XH} (h : lv 2 c_one (n + 1) xs L Q E) : xs.length = 2 ∧ bodyK (Ph S n) 2 P.ir_law_one xs L Q E := by
  obtain ⟨hn, i, B, T, ts, rfl, hf, hT, ⟨hne, hlen⟩, h⟩ := h
  refine ⟨rfl, ?_⟩
  have hpos : 0 < ts.length := List.length_pos_iff.mpr hne
  have hbig : (ts.length : Int) < 2 ^ 1000 := by
    have : ((ts.length : Nat) : Int) ≤ 100000 := by omega
    exact Int.lt_of_le_of_lt this (by decide)
  have fin : ∀ (L' : Hl) (r : Int) (o' : O), 0 ≤ r → r < ts.length → Fd (B + 1) o' → ∃ v, atI ts r = some v ∧ Nr.Fin L Q v (L.set i o') := by
    intro L' r o' r0 r1 ho
    obtain ⟨k, rfl⟩ : ∃ k : Nat, r = k := ⟨r.toNat, by omega⟩
    have hk : k < ts.length := by omega
    exact ⟨ts[k], by simp [hk], fin_same (h _ (List.getElem_mem hk) o' ho)⟩
  unfold bodyK P.ir_law_one
  rcases hT with rfl | rfl | ⟨p, hp, rfl, hLp⟩
  · simp [startD]
    refine ph h1 ⟨by omega, i, B, _, rfl, hf, ⟨by omega, hbig⟩, fun r o' r0 r1 ho => ?_⟩
    simpa using fin L r o' r0 r1 ho
  · simp [startD]
    refine ph h1 ⟨by omega, i, B, _, rfl, hf, ⟨by omega, hbig⟩, fun r o' r0 r1 ho => ?_⟩
    simpa using fin L r o' r0 r1 ho
  · simp [startD, ln_obj hLp]
    refine ph h1 ⟨by omega, i, B, _, rfl, hf, ⟨by omega, hbig⟩, fun r o' r0 r1 ho => ?_⟩
    have hLp' : (L.set i o')[p]? = some (.lst ts) := by rw [List.getElem?_set_ne (Ne.symm hp)]; exact hLp
    show idxK _ _ _ _
    rw [ix_obj hLp']
    exact fin L r o' r0 r1 ho
/-- plain data, of this depth -/
def gd : Nat → D → Bool
  | 0, _ => false
  | _ + 1, .non => true
  | _ + 1, .bl _ => true
  | _ + 1, .int _ => true
  | _ + 1, .str _ => true
  | n + 1, .tup xs => decide (xs.length ≤ sizeLine) && xs.all (gd n)
  | n + 1, .lst xs => decide (xs.length ≤ sizeLine) && xs.all (gd n)
  | _, _ => false
def c_same (n : Nat) : Ct := fun xs L Q E => ∃ x, xs = [x, x] ∧ gd n x = true ∧ Q (.bl true) L
theorem zip_self (xs : List D) : zipD xs xs = xs.map fun x => .tup [x, x] := by
  induction xs with
  | nil => rfl
  | cons x xs ih => simp [zipD, ih]
theorem b_same {S : Specs} (h1 : Has S "_law_same" c_same) {n : Nat} {xs : List D} {L : Hl} {Q : QE} {E : XH} (h : c_same (n + 1) xs L Q E) : xs.length = 2 ∧ bodyK (Ph S n) 4 P.ir_law_same xs L Q E := by
  obtain ⟨x, rfl, hg, h⟩ := h
  refine ⟨rfl, ?_⟩
  cases x <;> first | (cases hg; done) | skip
  · unfold bodyK P.ir_law_same
    simp [startD, tnIs]
    exact fin_same h
  · unfold bodyK P.ir_law_same
    simp [startD, tnIs]
    exact fin_same h
  · unfold bodyK P.ir_law_same
    simp [startD, tnIs]
    exact fin_same h
  · unfold bodyK P.ir_law_same
    simp [startD, tnIs]
    exact fin_same h
  · rename_i ys
    unfold bodyK P.ir_law_same
    simp only [gd, Bool.and_eq_true, decide_eq_true_eq] at hg
    simp [startD, tnIs]
    rw [zip_self]
    refine lcR_t (f := fun _ => none) ys trivial hg.1 (fun a ha k hk => ?_) ?_
    · simp [wipeD]
      exact ph h1 ⟨a, rfl, List.all_eq_true.mp hg.2 a ha, by simpa using hk⟩
    · rw [show ys.filterMap (fun _ => (none : Option D)) = [] from by simp]
      exact c_eqn rfl (fin_same h)
  · rename_i ys
    unfold bodyK P.ir_law_same
    simp only [gd, Bool.and_eq_true, decide_eq_true_eq] at hg
    simp [startD, tnIs]
    rw [zip_self]
    refine lcR_t (f := fun _ => none) ys trivial hg.1 (fun a ha k hk => ?_) ?_
    · simp [wipeD]
      exact ph h1 ⟨a, rfl, List.all_eq_true.mp hg.2 a ha, by simpa using hk⟩
    · rw [show ys.filterMap (fun _ => (none : Option D)) = [] from by simp]
      exact c_eqn rfl (fin_same h)
def c_mixed : Ct := fun xs L Q E => ∃ (i : Nat) (B : Int) (T : D) (ts : List D), xs = [.obj i, T] ∧ feedAt L i B ∧ (T = .lst ts ∨ T = .tup ts) ∧ (nonum.nonums ts = true ∧ ts.length ≤ 1000 ∧ B + ts.length ≤ 100000000) ∧ ∀ p o', p.Perm ts → Fd (B + ts.length) o' → Q (.lst p) (L.set i o')
theorem nonums_all : ∀ xs : List D, nonum.nonums xs = xs.all nonum
  | [] => rfl
  | x :: xs => by rw [nonum.nonums, List.all_cons, nonums_all xs]
theorem frzs_same {n : Nat} {L : Hl} : ∀ {xs : List D}, nonum.nonums xs = true → Frzs n L xs xs
  | [], _ => .nil
  | x :: xs, h => by
    rw [nonum.nonums, Bool.and_eq_true] at h
    exact .cons (.same h.1) (frzs_same h.2)
/-- the end of a def that hands back a list of its own; one object of the caller's may have changed -/
theorem fin_froz {L R : Hl} {Q : QE} {i j : Nat} {o : O} {xs : List D} (ho : o.nonum = true) (hx : nonum.nonums xs = true) (hj : L.length ≤ j) (e : (L.set i o ++ R)[j]? = some (.lst xs)) (h : Q (.lst xs) (L.set i o)) : Nr.Fin L Q (.obj j) (L.set i o ++ R) := by
  refine ⟨.lst xs, L.set i o, .froz (.obj hj e (frzs_same hx)) ?_ set_len (fun k u ek => ?_), h⟩
  · rw [List.drop_left' set_len]
  · by_cases hi : i = k
    · subst hi
      rw [List.getElem?_set] at ek
      simp at ek
      obtain ⟨_, rfl⟩ := ek
      exact .inr ho
    · rw [List.getElem?_set_ne hi] at ek
      exact .inl ek
theorem fin_froz0 {L R : Hl} {Q : QE} {j : Nat} {xs : List D} (hx : nonum.nonums xs = true) (hj : L.length ≤ j) (e : (L ++ R)[j]? = some (.lst xs)) (h : Q (.lst xs) L) : Nr.Fin L Q (.obj j) (L ++ R) := by
  refine ⟨.lst xs, L, .froz (.obj hj e (frzs_same hx)) ?_ rfl (fun k u ek => .inl ek), h⟩
  rw [List.drop_left' rfl]
theorem perm_nonums {xs ys : List D} (h : xs.Perm ys) (hn : nonum.nonums ys = true) : nonum.nonums xs = true := by
  rw [nonums_all] at hn ⊢
  rw [List.all_eq_true] at hn ⊢
  exact fun x hx => hn x (h.mem_iff.mp hx)
theorem erase_perm {α : Type} : ∀ (l : List α) (j : Nat) (h : j < l.length), (l[j] :: l.eraseIdx j).Perm l
  | x :: l, 0, _ => by simp
  | x :: l, j + 1, h => by
    have ih := erase_perm l j (by simpa using h)
    simp only [List.getElem_cons_succ, List.eraseIdx_cons_succ]
    exact (List.Perm.swap _ _ _).trans (List.Perm.cons x ih)
theorem b_mixed {S : Specs} (h1 : Has S "_law_draw" (lv 1 c_draw)) {n : Nat} {xs : List D} {L : Hl} {Q : QE} {E : XH} (h : lv 2 c_mixed (n + 1) xs L Q E) : xs.length = 2 ∧ bodyK (Ph S n) 5 P.ir_law_mixed xs L Q E := by
  obtain ⟨hn, i, B, T, ts, rfl, hf, hT, ⟨hnn, hlen, hB⟩, h⟩ := h
  refine ⟨rfl, ?_⟩
  have hi := feed_lt hf
  obtain ⟨o0, ho0, hF0, _⟩ := id hf
  unfold bodyK P.ir_law_mixed
  have seqT : ∀ (L : Hl) (Qs : List D → Prop), Qs ts → seqK L T Qs := fun L Qs q => by rcases hT with rfl | rfl <;> exact q
  have lenT : ∀ (L : Hl) (Q : D → Prop), Q (.int ts.length) → lenK L T Q := fun L Q q => by rcases hT with rfl | rfl <;> exact q
  simp [startD]
  refine seqT _ _ ?_
  simp [setsD]
  refine lenT _ _ ?_
  simp
  refine ⟨⟨smallR_of (by omega) (by omega), smallR_of (by omega) (by omega)⟩, ?_⟩
  refine forR_i (fun k ds L' => ∃ (o' : O) (l f : List D) (t : Option D), Fd (B + k) o' ∧ (l ++ f).Perm ts ∧ f.length = k ∧ L' = L.set i o' ++ [.lst l, .lst f] ∧ ds = [some (.obj i), some T, some (.obj L.length), some (.obj (L.length + 1)), t]) _ ⟨o0, ts, [], none, by simpa using hF0, by simp, rfl, ?_, rfl⟩ ?_ ?_
  · have : L.set i o0 = L := by
      refine List.ext_getElem? fun j => ?_
      by_cases hj : i = j
      · subst hj
        rw [List.getElem?_set_self hi, ho0]
      · rw [List.getElem?_set_ne hj]
    rw [this]
  · rintro k x ds L' hx ⟨o', l, f, t, hF, hp, hfl, rfl, rfl⟩
    refine ⟨trivial, fun M h2 h3 h4 h5 => ?_⟩
    obtain ⟨hk, rfl⟩ := rngD_get hx
    simp at hk
    have hll : l.length + f.length = ts.length := by have := hp.length_eq; simpa using this
    have hlpos : 0 < l.length := by omega
    have e1 : (L.set i o' ++ [O.lst l, O.lst f])[L.length]? = some (.lst l) := by simp
    have e2 : (L.set i o' ++ [O.lst l, O.lst f])[L.length + 1]? = some (.lst f) := by simp
    simp
    refine ⟨lst_at e2, lst_at e1, ?_⟩
    rw [ln_obj e1]
    have fa : feedAt (L.set i o' ++ [O.lst l, O.lst f]) i (B + k) := feed_app ⟨o', get_set ho0, hF, by omega⟩
    refine ph h1 ⟨by omega, i, B + k, _, rfl, fa, ⟨by omega, ?_⟩, fun r o'' r0 r1 ho => ?_⟩
    · have : ((l.length : Nat) : Int) ≤ 1000 := by omega
      exact Int.lt_of_le_of_lt this (by decide)
    · have es : (L.set i o' ++ [O.lst l, O.lst f]).set i o'' = L.set i o'' ++ [O.lst l, O.lst f] := by
        rw [List.set_append_left _ _ (by simpa using hi), List.set_set]
      rw [es]
      obtain ⟨j, rfl⟩ : ∃ j : Nat, r = j := ⟨r.toNat, by omega⟩
      have hj : j < l.length := by omega
      have e1' : (L.set i o'' ++ [O.lst l, O.lst f])[L.length]? = some (.lst l) := by simp
      refine ⟨l, j, l[j], e1', by omega, by omega, ?_, by simp [hj], ?_⟩
      · unfold seqIndex?
        simp
        omega
      · have es2 : (L.set i o'' ++ [O.lst l, O.lst f]).set L.length (.lst (l.eraseIdx j)) = L.set i o'' ++ [O.lst (l.eraseIdx j), O.lst f] := by
          rw [List.set_append_right _ _ (by simp)]
          simp
        rw [es2]
        have e2' : (L.set i o'' ++ [O.lst (l.eraseIdx j), O.lst f])[L.length + 1]? = some (.lst f) := by simp
        refine ⟨f, e2', by rw [sizeLine_eq]; omega, ?_⟩
        have eB : B + (k : Int) + 1 = B + ((k + 1 : Nat) : Int) := by omega
        rw [eB] at ho
        refine h2 _ _ ⟨o'', l.eraseIdx j, f ++ [l[j]], _, ho, ?_, by simp [hfl], ?_, rfl⟩
        · refine List.Perm.trans ?_ hp
          have a1 : (l[j] :: l.eraseIdx j).Perm l := erase_perm l j hj
          refine List.Perm.trans ?_ (a1.append_right f)
          rw [← List.append_assoc]
          refine List.perm_append_comm.trans ?_
          simp
        · rw [List.set_append_right _ _ (by simp)]
          simp
  · rintro ds L' ⟨o', l, f, t, hF, hp, hfl, rfl, rfl⟩
    refine ⟨trivial, ?_⟩
    have hr : (rngD 0 (ts.length : Int)).length = ts.length := by simp [rngD]
    rw [hr] at hF hfl
    have hl0 : l = [] := by
      have := hp.length_eq
      simp at this
      exact List.eq_nil_of_length_eq_zero (by omega)
    subst hl0
    simp at hp
    simp
    exact fin_froz hF.nonum (perm_nonums hp hnn) (by omega) (by simp) (h f o' hp hF)

theorem c_same_zero {xs : List D} {L : Hl} {Q : QE} {E : XH} (h : c_same 0 xs L Q E) : False := by
  obtain ⟨x, _, h, _⟩ := h
  cases h
end Nr

/-! Turnings: what the functions tell. -/
namespace Nr
open PySem PySem.Spec PyProof.Rows L2
def intV : D → Option Int
  | .int i => some i
  | _ => none
/-- a tuple of integers in bounds, unlike one another -/
def rowU (a b : Int) : D → Bool
  | .tup ys => ys.all (isI a b) && decide ((ys.filterMap intV).Nodup)
  | _ => false
def okR (x : D) : Bool := ty x && match x with
  | .tup ys => decide (ys.length ≤ sizeLine) && ys.all ty
  | _ => true
theorem okR_tup {ys : List D} (h : okR (.tup ys) = true) : ys.length ≤ sizeLine ∧ ∀ y ∈ ys, ty y = true := by
  simp [okR, ty] at h
  exact h
theorem isI_int {a b : Int} {x : D} (h : isI a b x = true) : ∃ i, x = .int i ∧ a ≤ i ∧ i ≤ b := by
  cases x <;> first | (cases h; done) | skip
  rename_i i
  simp [isI] at h
  exact ⟨i, rfl, h.1, h.2⟩
theorem all_ints {a b : Int} : ∀ {ys : List D}, ys.all (isI a b) = true → ys = (ys.filterMap intV).map .int ∧ (ys.filterMap intV).length = ys.length ∧ ∀ i ∈ ys.filterMap intV, a ≤ i ∧ i ≤ b
  | [], _ => by simp
  | y :: ys, h => by
    rw [List.all_cons, Bool.and_eq_true] at h
    obtain ⟨i, rfl, h1, h2⟩ := isI_int h.1
    obtain ⟨e1, e2, e3⟩ := all_ints h.2
    simp only [List.filterMap_cons, intV, List.map_cons, List.length_cons, e2]
    refine ⟨by rw [← e1], trivial, fun j hj => ?_⟩
    rcases List.mem_cons.mp hj with rfl | hj
    · exact ⟨h1, h2⟩
    · exact e3 j hj
def c_is_row_unlike : Ct := fun xs L Q E => ∃ x a b, xs = [x, .int a, .int b] ∧ okR x = true ∧ Q (.bl (rowU a b x)) L
theorem b_is_row_unlike {S : Specs} (h1 : Has S "is_integer" (lv 1 c_is_integer)) {n : Nat} {xs : List D} {L : Hl} {Q : QE} {E : XH} (h : lv 2 c_is_row_unlike (n + 1) xs L Q E) : xs.length = 3 ∧ bodyK (Ph S n) 4 P.iris_row_unlike xs L Q E := by
  obtain ⟨hn, x, a, b, rfl, hx, h⟩ := h
  refine ⟨rfl, ?_⟩
  unfold bodyK P.iris_row_unlike
  cases x <;> first | (cases hx; done) | skip
  all_goals simp [startD, tnIs]
  all_goals try exact fin_same h
  rename_i ys
  obtain ⟨hl, ht⟩ := okR_tup hx
  refine lcR_map (fun y => .bl (isI a b y)) (by trivial) ys [] (by simpa using hl) (fun y hy k hk => ?_) ?_
  · simp [wipeD]
    exact ph h1 ⟨by omega, y, a, b, rfl, ht y hy, hk⟩
  · simp [bls_map]
    rw [allB_map]
    simp only [rowU] at h
    cases ha : ys.all (isI a b) with
    | false =>
      rw [ha, Bool.false_and] at h
      simp only [Bool.false_eq_true, reduceIte]
      exact fin_same h
    | true =>
      rw [ha, Bool.true_and] at h
      simp only [Bool.false_eq_true, reduceIte]
      obtain ⟨e1, e2, e3⟩ := all_ints ha
      generalize hz : ys.filterMap intV = zs at h e1 e2 e3
      subst e1
      refine dcR_set (t := false) (s := .fixed _) (enc := .int) (kf := id) (eb := .int) keyEnc_int zs (by trivial) (fun b _ => rfl) (by simpa using hl) (fun z hz k hk => ?_) fun vs hv => ?_
      · simp [wipeD]
        exact hk _
      · simp
        have := (uniq_len zs).2
        refine fin_same ?_
        have e : decide (((uniq zs).length : Int) = (zs.length : Int)) = decide zs.Nodup := by
          rw [decide_eq_decide, ← this]
          omega
        rw [e]
        exact h
/-- a turning of so many places, as an object -/
def turnF (m : Int) (x : D) : Bool := rowU 0 (m - 1) x && match x with
  | .tup ys => decide ((ys.length : Int) = m)
  | _ => false
def c_is_turning_form : Ct := fun xs L Q E => ∃ x m, xs = [x, .int m] ∧ okR x = true ∧ Q (.bl (turnF m x)) L
theorem rowU_tup {a b : Int} {x : D} (h : rowU a b x = true) : ∃ zs : List Int, x = .tup (zs.map .int) ∧ zs.Nodup ∧ ∀ i ∈ zs, a ≤ i ∧ i ≤ b := by
  unfold rowU at h
  split at h
  · rename_i ys
    rw [Bool.and_eq_true, decide_eq_true_eq] at h
    obtain ⟨e1, e2, e3⟩ := all_ints h.1
    exact ⟨_, by rw [← e1], h.2, e3⟩
  · cases h
theorem b_is_turning_form {S : Specs} (h1 : Has S "is_row_unlike" (lv 2 c_is_row_unlike)) {n : Nat} {xs : List D} {L : Hl} {Q : QE} {E : XH} (h : lv 3 c_is_turning_form (n + 1) xs L Q E) : xs.length = 2 ∧ bodyK (Ph S n) 2 P.iris_turning_form xs L Q E := by
  obtain ⟨hn, x, m, rfl, hx, h⟩ := h
  refine ⟨rfl, ?_⟩
  unfold bodyK P.iris_turning_form
  simp [startD]
  refine ph h1 ⟨by omega, x, _, _, rfl, hx, ?_⟩
  simp
  cases hr : rowU 0 (m - 1) x with
  | false =>
    rw [if_neg (by decide)]
    exact fin_same (by simpa [turnF, hr] using h)
  | true =>
    rw [if_pos rfl]
    obtain ⟨zs, rfl, _⟩ := rowU_tup hr
    simp
    exact fin_same (by simpa [turnF, hr] using h)
/-- a turning of any places up to six, as an object -/
def turnA (x : D) : Bool := match x with
  | .tup ys => decide (ys.length ≤ 6) && turnF ys.length x
  | _ => false
def c_need_turning : Ct := fun xs L Q E => ∃ x, xs = [x] ∧ okR x = true ∧ (if turnA x = true then Q .non L else E "BadTurning" L)
theorem b_need_turning {S : Specs} (h1 : Has S "is_turning_form" (lv 3 c_is_turning_form)) {n : Nat} {xs : List D} {L : Hl} {Q : QE} {E : XH} (h : lv 4 c_need_turning (n + 1) xs L Q E) : xs.length = 1 ∧ bodyK (Ph S n) 1 P.irneed_turning xs L Q E := by
  obtain ⟨hn, x, rfl, hx, h⟩ := h
  refine ⟨rfl, ?_⟩
  unfold bodyK P.irneed_turning
  cases x <;> first | (cases hx; done) | skip
  all_goals simp [startD, tnIs]
  all_goals try exact finX_same (ds := []) h
  rename_i ys
  by_cases hl : ys.length ≤ 6
  · have : ¬ 6 < (ys.length : Int) := by omega
    simp [this]
    refine ph h1 ⟨by omega, _, _, rfl, hx, ?_⟩
    simp
    have e : turnA (.tup ys) = turnF ys.length (.tup ys) := by simp [turnA, hl]
    rw [e] at h
    cases ht : turnF ys.length (.tup ys) with
    | false =>
      rw [ht] at h
      simp only [Bool.false_eq_true, reduceIte]
      exact finX_same (ds := []) (by simpa using h)
    | true =>
      rw [ht] at h
      simp only [Bool.false_eq_true, reduceIte]
      exact fin_same (by simpa using h)
  · have : 6 < (ys.length : Int) := by omega
    simp [this]
    have e : turnA (.tup ys) = false := by simp [turnA, hl]
    rw [e] at h
    exact finX_same (ds := []) (by simpa using h)
/-! ### turnings as lists of numbers -/
def nd (n : Nat) : D := .int n
def ts (t : List Nat) : List D := t.map nd
def Tur (m : Nat) (t : List Nat) : Prop := t.length = m ∧ t.Nodup ∧ ∀ i ∈ t, i < m
theorem nodup_map {α β : Type} {f : α → β} {l : List α} (h : ∀ x ∈ l, ∀ y ∈ l, f x = f y → x = y) (n : l.Nodup) : (l.map f).Nodup := by
  induction l with
  | nil => simp
  | cons a l ih =>
    rw [List.nodup_cons] at n
    rw [List.map_cons, List.nodup_cons]
    refine ⟨fun z => ?_, ih (fun x hx y hy => h x (List.mem_cons_of_mem _ hx) y (List.mem_cons_of_mem _ hy)) n.2⟩
    obtain ⟨b, hb, e⟩ := List.mem_map.mp z
    have := h b (List.mem_cons_of_mem _ hb) a List.mem_cons_self e
    subst this
    exact n.1 hb
theorem turnF_of {m : Nat} {t : List Nat} (h : Tur m t) : turnF m (.tup (ts t)) = true := by
  have hi : ∀ t : List Nat, (ts t).filterMap intV = t.map fun n : Nat => (n : Int) := fun t => by
    induction t with
    | nil => rfl
    | cons a t ih =>
      show List.filterMap intV (nd a :: ts t) = _
      rw [List.filterMap_cons, ih]
      rfl
  unfold turnF rowU
  dsimp only
  rw [hi]
  simp only [Bool.and_eq_true, decide_eq_true_eq, List.all_eq_true]
  refine ⟨⟨fun x hx => ?_, ?_⟩, by simp [ts, h.1]⟩
  · obtain ⟨n, hn, rfl⟩ := List.mem_map.mp hx
    have := h.2.2 n hn
    simp [isI, nd]
    omega
  · exact nodup_map (fun a _ b _ e => by omega) h.2.1
theorem turnF_is {m : Nat} {x : D} (h : turnF m x = true) : ∃ t, Tur m t ∧ x = .tup (ts t) := by
  unfold turnF at h
  rw [Bool.and_eq_true] at h
  obtain ⟨zs, rfl, h1, h2⟩ := rowU_tup h.1
  have hl : zs.length = m := by
    have := h.2
    simp at this
    omega
  refine ⟨zs.map Int.toNat, ⟨by simpa using hl, ?_, fun i hi => ?_⟩, ?_⟩
  · refine nodup_map (fun x hx y hy e => ?_) h1
    have := h2 x hx
    have := h2 y hy
    omega
  · obtain ⟨z, hz, rfl⟩ := List.mem_map.mp hi
    have := h2 z hz
    omega
  · unfold ts
    rw [List.map_map]
    congr 1
    refine List.map_congr_left fun z hz => ?_
    have := h2 z hz
    simp [nd]
    omega
theorem okR_ts {t : List Nat} (h : t.length ≤ 1000) : okR (.tup (ts t)) = true := by
  simp [okR, ty, ts, nd]
  rw [sizeLine_eq]
  omega
theorem turnA_of {m : Nat} {t : List Nat} (h : Tur m t) (hm : m ≤ 6) : turnA (.tup (ts t)) = true := by
  have hl : (ts t).length = m := by simp [ts, h.1]
  simp only [turnA, Bool.and_eq_true, decide_eq_true_eq, hl]
  exact ⟨hm, turnF_of h⟩
/-- a row, turned -/
def tb (t : List Nat) (r : List D) : List D := t.map fun i => r.getD i .non
def c_turned_by : Ct := fun xs L Q E => ∃ (t : List Nat) (r : List D), xs = [.tup (ts t), .tup r] ∧ (∀ i ∈ t, i < r.length) ∧ t.length ≤ sizeLine ∧ Q (.tup (tb t r)) L
theorem b_turned_by {Φ : Phi} {n : Nat} {xs : List D} {L : Hl} {Q : QE} {E : XH} (h : lv 1 c_turned_by n xs L Q E) : xs.length = 2 ∧ bodyK Φ 3 P.irturned_by xs L Q E := by
  obtain ⟨hn, t, r, rfl, ht, hl, h⟩ := h
  refine ⟨rfl, ?_⟩
  unfold bodyK P.irturned_by
  simp [startD]
  refine lcR_m (enc := nd) (f := fun i => r.getD i .non) t (by trivial) hl (fun i hi k hk => ?_) ?_
  · simp [wipeD, nd]
    rw [List.getElem?_eq_getElem (ht i hi)]
    refine ⟨_, rfl, ?_⟩
    simpa [ht i hi] using hk
  · simp
    exact fin_same h
/-- one turning and then the other -/
def aft (t u : List Nat) : List Nat := t.map fun i => u.getD i 0
theorem getD_ts {u : List Nat} {i : Nat} (h : i < u.length) : (ts u).getD i .non = nd (u.getD i 0) := by
  simp [ts, h]
theorem tb_of {t u : List Nat} (h : ∀ i ∈ t, i < u.length) : tb t (ts u) = ts (aft t u) := by
  unfold tb aft
  conv => rhs; unfold ts
  rw [List.map_map]
  refine List.map_congr_left fun i hi => ?_
  exact getD_ts (h i hi)
theorem len_le : ∀ (m : Nat) (l : List Nat), l.Nodup → (∀ i ∈ l, i < m) → l.length ≤ m
  | 0, l, _, h => by
    cases l with
    | nil => simp
    | cons a l => exact absurd (h a List.mem_cons_self) (Nat.not_lt_zero _)
  | m + 1, l, n, h => by
    have ih := len_le m (l.erase m) (n.erase m) fun i hi => by
      rw [n.mem_erase_iff] at hi
      have := h i hi.2
      omega
    by_cases hm : m ∈ l
    · rw [List.length_erase_of_mem hm] at ih
      omega
    · rw [List.erase_of_not_mem hm] at ih
      omega
theorem Tur.all {m : Nat} {t : List Nat} (h : Tur m t) {j : Nat} (hj : j < m) : j ∈ t := by
  rcases Decidable.em (j ∈ t) with z | z
  · exact z
  · have := len_le m (j :: t) (List.nodup_cons.mpr ⟨z, h.2.1⟩) fun i hi => by
      rcases List.mem_cons.mp hi with rfl | hi
      · exact hj
      · exact h.2.2 i hi
    simp [h.1] at this
    omega
theorem Tur.perm {m : Nat} {t : List Nat} (h : Tur m t) : t.Perm (List.range m) :=
  (List.perm_ext_iff_of_nodup h.2.1 List.nodup_range).mpr fun a => by
    rw [List.mem_range]
    exact ⟨h.2.2 a, h.all⟩
theorem tur_of_perm {m : Nat} {t : List Nat} (h : t.Perm (List.range m)) : Tur m t := by
  refine ⟨by simpa using h.length_eq, h.symm.nodup List.nodup_range, fun i hi => ?_⟩
  simpa using h.mem_iff.mp hi
theorem tur_range (m : Nat) : Tur m (List.range m) := tur_of_perm (List.Perm.refl _)
/-- the turning back -/
def inv (t : List Nat) : List Nat := (List.range t.length).map fun j => t.idxOf j
def c_back_by : Ct := fun xs L Q E => ∃ (t : List Nat) (m : Nat), xs = [.tup (ts t)] ∧ Tur m t ∧ t.length ≤ 1000 ∧ Q (.tup (ts (inv t))) L
theorem get_new {L : Hl} {o : O} : (L ++ [o])[L.length]? = some o := by simp
theorem b_back_by {Φ : Phi} {n : Nat} {xs : List D} {L : Hl} {Q : QE} {E : XH} (h : lv 1 c_back_by n xs L Q E) : xs.length = 1 ∧ bodyK Φ 4 P.irback_by xs L Q E := by
  obtain ⟨hn, t, m, rfl, ht, hl, h⟩ := h
  refine ⟨rfl, ?_⟩
  have htm := ht.1
  unfold bodyK P.irback_by
  simp [startD]
  have hlen : (ts t).length = t.length := by simp [ts]
  rw [hlen]
  refine ⟨by rw [sizeLine_eq]; decide, ⟨by omega, by rw [sizeLine_eq]; omega⟩, ?_⟩
  refine forR_i (fun k ds L' => ∃ a b : Option D, ds = [some (.tup (ts t)), some (.obj L.length), a, b] ∧ L' = L ++ [.lst (ts ((List.range t.length).map fun j => if j ∈ t.take k then t.idxOf j else 0))]) _ ⟨none, none, rfl, ?_⟩ ?_ ?_
  · congr 2
    congr 1
    unfold ts
    rw [List.map_map]
    refine List.ext_getElem? fun j => ?_
    by_cases hj : j < t.length
    · simp [hj, nd, List.getElem?_replicate]
    · simp [hj, nd, List.getElem?_replicate]
  · rintro k x ds L' hx ⟨a, b, rfl, rfl⟩
    refine ⟨trivial, fun M h2 h3 h4 h5 => ?_⟩
    obtain ⟨y, hy, rfl⟩ := enumD_get hx
    obtain ⟨p, hp, rfl⟩ : ∃ p, t[k]? = some p ∧ y = nd p := by
      unfold ts at hy
      rw [List.getElem?_map] at hy
      cases e : t[k]? with
      | none => rw [e] at hy; cases hy
      | some p => rw [e] at hy; cases hy; exact ⟨p, rfl, rfl⟩
    have hk := (List.getElem?_eq_some_iff.mp hp).1
    have hpm : p < t.length := by rw [htm]; exact ht.2.2 p (List.mem_of_getElem? hp)
    simp [nd]
    refine set_at get_new (ixN_nat (by simp [ts]; exact hpm)) ?_
    refine h2 _ _ ⟨_, _, rfl, ?_⟩
    rw [List.set_append_right _ _ (by simp)]
    simp
    unfold ts
    rw [List.map_map, List.map_map]
    refine List.ext_getElem? fun j => ?_
    by_cases hj : j < t.length
    · by_cases e : p = j
      · subst e
        have i1 : t.idxOf p = k := by
          have := ht.2.1.idxOf_getElem k hk
          rw [List.getElem?_eq_getElem hk] at hp
          cases hp
          exact this
        have i2 : p ∈ t.take (k + 1) := by
          rw [List.take_add_one, hp]
          simp
        simp [hj, i1, i2, nd]
      · have i2 : j ∈ t.take (k + 1) ↔ j ∈ t.take k := by
          rw [List.take_add_one, hp]
          simp
          exact fun z => absurd z.symm e
        rw [List.getElem?_set_ne e]
        simp [hj, i2, nd]
    · simp [hj]
  · rintro ds L' ⟨a, b, rfl, rfl⟩
    refine ⟨trivial, ?_⟩
    have hr : (enumD 0 (ts t)).length = t.length := by simp [enumD_len, ts]
    rw [hr]
    have e : ((List.range t.length).map fun j => if j ∈ t.take t.length then t.idxOf j else 0) = inv t := by
      unfold inv
      refine List.map_congr_left fun j hj => ?_
      rw [List.take_length, if_pos (ht.all (by rw [← htm]; simpa using hj))]
    rw [e]
    simp
    rw [sq_obj get_new]
    refine fin_cut0 ?_ h
    simp [nonum, nonums_all, ts, nd]
theorem inv_spec {m : Nat} {t : List Nat} (h : Tur m t) : Tur m (inv t) ∧ (∀ j, j < m → t.getD ((inv t).getD j 0) 0 = j) ∧ ∀ j, j < m → (inv t).getD (t.getD j 0) 0 = j := by
  have hm := h.1
  have g : ∀ j, j < m → (inv t).getD j 0 = t.idxOf j := fun j hj => by
    unfold inv
    rw [hm]
    simp [hj]
  have lt : ∀ j, j < m → t.idxOf j < m := fun j hj => by
    have := List.idxOf_lt_length_iff.mpr (h.all hj)
    omega
  have a1 : ∀ j, j < m → t.getD ((inv t).getD j 0) 0 = j := fun j hj => by
    rw [g j hj]
    have hl : t.idxOf j < t.length := by rw [hm]; exact lt j hj
    simp [hl]
  have a2 : ∀ j, j < m → (inv t).getD (t.getD j 0) 0 = j := fun j hj => by
    have hl : j < t.length := by omega
    have e : t.getD j 0 = t[j] := by simp [hl]
    rw [e, g _ (h.2.2 _ (List.getElem_mem hl)), h.2.1.idxOf_getElem j hl]
  refine ⟨⟨by simp [inv, hm], ?_, fun i hi => ?_⟩, a1, a2⟩
  · unfold inv
    rw [hm]
    refine nodup_map (fun x hx y hy e => ?_) List.nodup_range
    have q1 := a1 x (by simpa using hx)
    have q2 := a1 y (by simpa using hy)
    rw [g x (by simpa using hx)] at q1
    rw [g y (by simpa using hy)] at q2
    rw [← q1, ← q2, e]
  · unfold inv at hi
    obtain ⟨j, hj, rfl⟩ := List.mem_map.mp hi
    exact lt j (by simpa [hm] using hj)
def isRow (m : Nat) (x : D) : Bool := match x with
  | .tup ys => decide (ys.length = m)
  | _ => false
def c_turned : Ct := fun xs L Q E => ∃ x r, xs = [x, r] ∧ okR x = true ∧ (turnA x = true → ty r = true) ∧ (turnA x = false → E "BadTurning" L) ∧
  ∀ m t, Tur m t → m ≤ 6 → x = .tup (ts t) → (isRow m r = false → E "BadRow" L) ∧ ∀ ys, r = .tup ys → ys.length = m → Q (.tup (tb t ys)) L
theorem turnA_is {x : D} (h : turnA x = true) : ∃ m t, Tur m t ∧ m ≤ 6 ∧ x = .tup (ts t) := by
  unfold turnA at h
  split at h
  · rename_i ys
    rw [Bool.and_eq_true, decide_eq_true_eq] at h
    obtain ⟨t, ht, e⟩ := turnF_is h.2
    exact ⟨_, t, ht, h.1, e⟩
  · cases h
theorem b_turned {S : Specs} (h1 : Has S "need_turning" (lv 4 c_need_turning)) (h2 : Has S "turned_by" (lv 1 c_turned_by)) {n : Nat} {xs : List D} {L : Hl} {Q : QE} {E : XH} (h : lv 5 c_turned (n + 1) xs L Q E) : xs.length = 2 ∧ bodyK (Ph S n) 2 P.irturned xs L Q E := by
  obtain ⟨hn, x, r, rfl, hx, hr, hE, h⟩ := h
  refine ⟨rfl, ?_⟩
  unfold bodyK P.irturned
  simp [startD]
  refine ph h1 ⟨by omega, x, rfl, hx, ?_⟩
  cases ht : turnA x with
  | false =>
    simp only [Bool.false_eq_true, reduceIte]
    exact finX_same (ds := []) (hE ht)
  | true =>
    simp only [Bool.false_eq_true, reduceIte]
    obtain ⟨m, t, h3, h4, rfl⟩ := turnA_is ht
    obtain ⟨g1, g2⟩ := h m t h3 h4 rfl
    have hlt : (ts t).length = m := by simp [ts, h3.1]
    have hr2 := hr ht
    clear hr h hE
    cases r <;> first | (cases hr2; done) | skip
    all_goals simp [tnIs]
    all_goals try exact finX_same (ds := []) (g1 rfl)
    rename_i ys
    rw [hlt]
    by_cases hl : ys.length = m
    · have : (ys.length : Int) = m := by omega
      simp [this]
      refine ph h2 ⟨by omega, t, ys, rfl, fun i hi => by rw [hl]; exact h3.2.2 i hi, by rw [h3.1, sizeLine_eq]; omega, fin_same (g2 ys rfl hl)⟩
    · have : ¬ (ys.length : Int) = m := by omega
      simp [this]
      exact finX_same (ds := []) (g1 (by simp [isRow, hl]))
def c_after : Ct := fun xs L Q E => ∃ x r, xs = [x, r] ∧ okR x = true ∧ (turnA x = true → okR r = true) ∧ (turnA x = false → E "BadTurning" L) ∧
  ∀ m t, Tur m t → m ≤ 6 → x = .tup (ts t) → (turnF m r = false → E "BadTurning" L) ∧ ∀ u, r = .tup (ts u) → Tur m u → Q (.tup (ts (aft t u))) L
theorem b_after {S : Specs} (h1 : Has S "need_turning" (lv 4 c_need_turning)) (h2 : Has S "turned_by" (lv 1 c_turned_by)) (h3 : Has S "is_turning_form" (lv 3 c_is_turning_form)) {n : Nat} {xs : List D} {L : Hl} {Q : QE} {E : XH} (h : lv 5 c_after (n + 1) xs L Q E) : xs.length = 2 ∧ bodyK (Ph S n) 2 P.irafter xs L Q E := by
  obtain ⟨hn, x, r, rfl, hx, hr, hE, h⟩ := h
  refine ⟨rfl, ?_⟩
  unfold bodyK P.irafter
  simp [startD]
  refine ph h1 ⟨by omega, x, rfl, hx, ?_⟩
  cases ht : turnA x with
  | false =>
    simp only [Bool.false_eq_true, reduceIte]
    exact finX_same (ds := []) (hE ht)
  | true =>
    simp only [Bool.false_eq_true, reduceIte]
    obtain ⟨m, t, h4, h5, rfl⟩ := turnA_is ht
    obtain ⟨g1, g2⟩ := h m t h4 h5 rfl
    have hlt : (ts t).length = m := by simp [ts, h4.1]
    simp
    rw [hlt]
    refine ph h3 ⟨by omega, r, _, rfl, hr ht, ?_⟩
    simp
    cases hf : turnF m r with
    | false =>
      simp only [Bool.false_eq_true, reduceIte]
      exact finX_same (ds := []) (g1 hf)
    | true =>
      simp only [Bool.false_eq_true, reduceIte]
      obtain ⟨u, hu, rfl⟩ := turnF_is hf
      have hb : ∀ i ∈ t, i < u.length := fun i hi => by rw [hu.1]; exact h4.2.2 i hi
      refine ph h2 ⟨by omega, t, ts u, rfl, fun i hi => by simpa [ts] using hb i hi, by rw [h4.1, sizeLine_eq]; omega, fin_same ?_⟩
      rw [tb_of hb]
      exact g2 u rfl hu
def c_back : Ct := fun xs L Q E => ∃ x, xs = [x] ∧ okR x = true ∧ (turnA x = false → E "BadTurning" L) ∧ ∀ m t, Tur m t → m ≤ 6 → x = .tup (ts t) → Q (.tup (ts (inv t))) L
theorem b_back {S : Specs} (h1 : Has S "need_turning" (lv 4 c_need_turning)) (h2 : Has S "back_by" (lv 1 c_back_by)) {n : Nat} {xs : List D} {L : Hl} {Q : QE} {E : XH} (h : lv 5 c_back (n + 1) xs L Q E) : xs.length = 1 ∧ bodyK (Ph S n) 1 P.irback xs L Q E := by
  obtain ⟨hn, x, rfl, hx, hE, h⟩ := h
  refine ⟨rfl, ?_⟩
  unfold bodyK P.irback
  simp [startD]
  refine ph h1 ⟨by omega, x, rfl, hx, ?_⟩
  cases ht : turnA x with
  | false =>
    simp only [Bool.false_eq_true, reduceIte]
    exact finX_same (ds := []) (hE ht)
  | true =>
    simp only [Bool.false_eq_true, reduceIte]
    obtain ⟨m, t, h4, h5, rfl⟩ := turnA_is ht
    exact ph h2 ⟨by omega, t, m, rfl, h4, by rw [h4.1]; omega, fin_same (h m t h4 h5 rfl)⟩
end Nr

/-! Data in order: sorted lists, the least one. -/
namespace Nr
open PySem PySem.Spec PyProof.Rows L2
theorem dlt_irrefl (x : D) : dlt x x = false := lex_irrefl _
theorem dlt_trans {x y z : D} (h : dlt x y = true) (g : dlt y z = true) : dlt x z = true := lex_trans _ _ _ h g
theorem dlt_neg {x y z : D} (h : dlt y x = false) (g : dlt z y = false) : dlt z x = false := by
  cases e : dlt z x with
  | false => rfl
  | true =>
    rcases lex_negTrans _ (W.keyToks (toP y)) _ (show PyProof.Rows.lexLt _ _ _ = true from e) with q | q
    · rw [show dlt z y = true from q] at g; cases g
    · rw [show dlt y x = true from q] at h; cases h
theorem dlt_asym {x y : D} (h : dlt x y = true) : dlt y x = false := by
  cases e : dlt y x with
  | false => rfl
  | true => have := dlt_trans h e; rw [dlt_irrefl] at this; cases this
/-- alike data without truths: told apart by the order -/
theorem dlt_total {n k : Nat} {x y : D} (ha : alikeD x y = true) (hx : noB n x = true) (hy : noB k y = true) (h : dlt x y = false) (g : dlt y x = false) : x = y := by
  have e : W.keyToks (toP x) = W.keyToks (toP y) := lex_total _ _ h g
  refine (eqv_noB hx hy).mp ?_
  cases q : PyData.eqv (toP x) (toP y) with
  | true => rfl
  | false =>
    have := (W.toks_eqv _ _ ha).2 q [] [.inl 0]
    rw [e, List.append_nil, lex_irrefl] at this
    have z : ∀ l : List (Int ⊕ List Nat), PyProof.Rows.lexLt itemOrd l (l ++ [Sum.inl (0 : Int)]) = true := fun l => by
      induction l with
      | nil => rfl
      | cons a l ih => rw [List.cons_append, lex_self (O := itemOrd)]; exact ih
    rw [z] at this
    cases this
theorem sortD_perm (xs : List D) : (sortD xs).Perm xs := List.mergeSort_perm xs _
theorem sortD_sorted (xs : List D) : (sortD xs).Pairwise fun a b => dlt b a = false := by
  have := List.pairwise_mergeSort (le := fun a b => !dlt b a) (fun a b c h g => by
    simp only [Bool.not_eq_true'] at h g ⊢
    exact dlt_neg h g) (fun a b => by
    cases e : dlt b a with
    | false => rfl
    | true => rw [dlt_asym e]; rfl) xs
  exact this.imp fun h => by simpa using h
/-- data of one kind, without truths -/
def OneK (xs : List D) : Prop := ∀ x ∈ xs, noB 60 x = true ∧ ∀ y ∈ xs, alikeD x y = true
theorem sorted_eq {xs ys : List D} (ho : OneK xs) (hp : xs.Perm ys) (hx : xs.Pairwise fun a b => dlt b a = false) (hy : ys.Pairwise fun a b => dlt b a = false) : xs = ys :=
  hp.eq_of_pairwise (fun a b ha hb h g => by
    have hb' := hp.mem_iff.mpr hb
    exact dlt_total ((ho a ha).2 b hb') (ho a ha).1 (ho b hb').1 g h) hx hy
theorem OneK.perm {xs ys : List D} (h : OneK xs) (hp : xs.Perm ys) : OneK ys := fun x hx => ⟨(h x (hp.mem_iff.mpr hx)).1, fun y hy => (h x (hp.mem_iff.mpr hx)).2 y (hp.mem_iff.mpr hy)⟩
theorem sortD_eq {xs ys : List D} (ho : OneK xs) (hp : xs.Perm ys) (hy : ys.Pairwise fun a b => dlt b a = false) : sortD xs = ys :=
  sorted_eq (ho.perm (sortD_perm xs).symm) ((sortD_perm xs).trans hp) (sortD_sorted xs) hy
theorem OneK.alikes {xs : List D} (h : OneK xs) : alikes xs = true := by
  simp only [Nr.alikes, Bool.and_eq_true, List.all_eq_true]
  exact ⟨fun x hx => plain_noB (h x hx).1, fun x hx y hy => (h x hx).2 y hy⟩
@[simp] theorem dlt_int (i j : Int) : dlt (.int i) (.int j) = decide (i < j) := W.dataLt_int i j
theorem oneK_int {α : Type} (f : α → Int) (xs : List α) : OneK (xs.map fun x => .int (f x)) := fun x hx => by
  obtain ⟨i, _, rfl⟩ := List.mem_map.mp hx
  refine ⟨rfl, fun y hy => ?_⟩
  obtain ⟨j, _, rfl⟩ := List.mem_map.mp hy
  rfl
theorem leastD_spec : ∀ (xs : List D) (x : D), leastD x xs ∈ x :: xs ∧ ∀ y ∈ x :: xs, dlt y (leastD x xs) = false
  | [], x => by simp [leastD, dlt_irrefl]
  | y :: xs, x => by
    have e : leastD x (y :: xs) = leastD (if dlt y x = true then y else x) xs := rfl
    obtain ⟨h1, h2⟩ := leastD_spec xs (if dlt y x = true then y else x)
    rw [e]
    refine ⟨?_, fun z hz => ?_⟩
    · rcases List.mem_cons.mp h1 with h | h
      · rw [h]; split <;> simp
      · exact List.mem_cons_of_mem _ (List.mem_cons_of_mem _ h)
    · have h0 := h2 _ List.mem_cons_self
      rcases List.mem_cons.mp hz with rfl | hz
      · by_cases q : dlt y z = true
        · rw [if_pos q] at h0 ⊢
          exact dlt_neg h0 (dlt_asym q)
        · rw [if_neg q] at h0 ⊢
          exact h0
      · rcases List.mem_cons.mp hz with rfl | hz
        · by_cases q : dlt z x = true
          · rw [if_pos q] at h0 ⊢
            exact h0
          · rw [if_neg q] at h0 ⊢
            exact dlt_neg h0 (by simpa using q)
        · exact h2 z (List.mem_cons_of_mem _ hz)
theorem leastD_eq {x : D} {xs : List D} {z : D} (ho : OneK (x :: xs)) (hz : z ∈ x :: xs) (hl : ∀ y ∈ x :: xs, dlt y z = false) : leastD x xs = z := by
  obtain ⟨h1, h2⟩ := leastD_spec xs x
  exact dlt_total ((ho _ h1).2 z hz) (ho _ h1).1 (ho z hz).1 (hl _ h1) (h2 z hz)
theorem range_sorted (n : Nat) : ((List.range n).map nd).Pairwise fun a b => dlt b a = false := by
  rw [List.pairwise_map]
  refine List.pairwise_lt_range.imp fun {a b} h => ?_
  simp [nd]
  omega
theorem sortD_ts {m : Nat} {t : List Nat} (h : Tur m t) : sortD (ts t) = rngD 0 m := by
  rw [rng0]
  exact sortD_eq (oneK_int (fun n : Nat => (n : Int)) t) (h.perm.map nd) (range_sorted m)
theorem sortable_ts (t : List Nat) : sortable (ts t) := ⟨(oneK_int (fun n : Nat => (n : Int)) t).alikes, .inr (.inl (by simp [ts, nd, isAtom]))⟩
theorem perm_ts {m : Nat} {p : List D} (h : p.Perm (rngD 0 m)) : ∃ t, Tur m t ∧ p = ts t := by
  rw [rng0] at h
  have e : p = ts (p.map fun d => (intV d).getD 0 |>.toNat) := by
    unfold ts
    rw [List.map_map]
    refine (List.map_id p).symm.trans (List.map_congr_left fun x hx => ?_)
    obtain ⟨n, _, rfl⟩ := List.mem_map.mp (h.mem_iff.mp hx)
    simp [intV, nd]
  refine ⟨_, tur_of_perm ?_, e⟩
  have := h.map fun d => ((intV d).getD 0).toNat
  rw [List.map_map] at this
  refine this.trans ?_
  rw [show ((fun d => ((intV d).getD 0).toNat) ∘ fun i : Nat => D.int (i : Int)) = id from funext fun n => by simp [intV]]
  simp
theorem gd_mono : ∀ {n k : Nat} {x : D}, n ≤ k → gd n x = true → gd k x = true := by
  intro n
  induction n with
  | zero => intro k x _ h; cases x <;> cases h
  | succ n ih =>
    intro k x hk h
    cases k with
    | zero => omega
    | succ k =>
      cases x <;> first | (cases h; done) | rfl | skip
      all_goals
        simp only [gd, Bool.and_eq_true, List.all_eq_true] at h ⊢
        exact ⟨h.1, fun x hx => ih (by omega) (h.2 x hx)⟩
theorem gd_ints {α : Type} (f : α → Int) {xs : List α} (hl : xs.length ≤ sizeLine) : gd 2 (.tup (xs.map fun x => .int (f x))) = true := by
  simp only [gd, Bool.and_eq_true, List.all_eq_true, decide_eq_true_eq]
  exact ⟨by simpa using hl, fun x hx => by obtain ⟨_, _, rfl⟩ := List.mem_map.mp hx; rfl⟩
theorem tb_tb {t u : List Nat} {r : List D} (h : ∀ i ∈ t, i < u.length) : tb (aft t u) r = tb t (tb u r) := by
  unfold tb aft
  rw [List.map_map]
  refine List.map_congr_left fun i hi => ?_
  simp [h i hi]
theorem tb_range {m : Nat} {r : List D} (h : r.length = m) : tb (List.range m) r = r := by
  refine List.ext_getElem? fun j => ?_
  unfold tb
  by_cases hj : j < m
  · simp [hj, h]
  · simp [hj, h]
theorem inv_after {m : Nat} {t : List Nat} (h : Tur m t) : aft t (inv t) = List.range m ∧ aft (inv t) t = List.range m := by
  unfold aft
  obtain ⟨h1, h2, h3⟩ := inv_spec h
  refine ⟨List.ext_getElem? fun j => ?_, List.ext_getElem? fun j => ?_⟩
  · by_cases hj : j < m
    · have := h3 j hj
      simp [h.1, hj] at this ⊢
      simpa using this
    · simp [h.1, hj]
  · by_cases hj : j < m
    · have := h2 j hj
      simp [h1.1, hj] at this ⊢
      simpa using this
    · simp [h1.1, hj]
theorem tur_after {m : Nat} {t u : List Nat} (ht : Tur m t) (hu : Tur m u) : Tur m (aft t u) := by
  unfold aft
  have g : ∀ i, i < m → ∃ h : i < u.length, u.getD i 0 = u[i] := fun i hi => by
    have : i < u.length := by rw [hu.1]; exact hi
    exact ⟨this, by simp [this]⟩
  refine ⟨by simp [ht.1], nodup_map (fun x hx y hy e => ?_) ht.2.1, fun i hi => ?_⟩
  · obtain ⟨h1, e1⟩ := g x (ht.2.2 x hx)
    obtain ⟨h2, e2⟩ := g y (ht.2.2 y hy)
    rw [e1, e2] at e
    exact (List.getElem_inj hu.2.1).mp e
  · obtain ⟨x, hx, rfl⟩ := List.mem_map.mp hi
    obtain ⟨h1, e1⟩ := g x (ht.2.2 x hx)
    rw [e1]
    exact hu.2.2 _ (List.getElem_mem h1)
theorem gd_ts {n : Nat} {t : List Nat} (h : t.length ≤ 1000) : gd (n + 2) (.tup (ts t)) = true := by
  refine gd_mono (n := 2) (by omega) ?_
  exact gd_ints (f := fun z : Nat => (z : Int)) (by rw [sizeLine_eq]; omega)
theorem gd_rows (n : Nat) (zs : List Int) (h : zs.length ≤ 1000) : gd (n + 2) (.tup (zs.map .int)) = true := by
  refine gd_mono (n := 2) (by omega) ?_
  have := gd_ints (f := fun z : Int => z) (xs := zs) (by rw [sizeLine_eq]; omega)
  exact this
theorem gd_lst2 {n : Nat} {x y : D} (h : gd n x = true) (g : gd n y = true) : gd (n + 1) (.lst [x, y]) = true := by
  simp [gd, h, g, sizeLine_eq]
theorem tb_int {t : List Nat} {zs : List Int} (h : ∀ i ∈ t, i < zs.length) : tb t (zs.map .int) = (t.map fun i => zs.getD i 0).map .int := by
  unfold tb
  rw [List.map_map]
  refine List.map_congr_left fun i hi => ?_
  simp [h i hi]
end Nr

/-! A law's def: for each cell, so many turns. -/
namespace Nr
open PySem PySem.Spec PyProof.Rows L2
def c_rightK (K : Int) : Ct := fun xs L Q E => ∃ (i : Nat) (B : Int), xs = [.obj i] ∧ feedAt L i B ∧ B ≤ 1000000 ∧ ∀ o', Fd (B + K) o' → Q (.bl true) (L.set i o')
def c_law : Ct := fun xs L Q E => ∃ ns : List Int, xs = [.scr (ns.map .int)] ∧ ns.length ≤ 63 ∧ ∀ L', Q (.bl true) L'
theorem cells_of (n : Nat) (p : Int) (hp : 1 ≤ p ∧ p ≤ 10) : ∃ c : Nat, c ≤ 10 ∧ (if (if p < (n : Int) then p else (n : Int)) > 1 then (if p < (n : Int) then p else (n : Int)) else 1) = (c : Int) := by
  refine ⟨(if (if p < (n : Int) then p else (n : Int)) > 1 then (if p < (n : Int) then p else (n : Int)) else 1).toNat, ?_, ?_⟩ <;> (repeat' split) <;> omega
theorem b_lawT {S : Specs} {d : Nat} {K p0 p1 : Int} (hp0 : 1 ≤ p0 ∧ p0 ≤ 10) (hp1 : 0 ≤ p1 ∧ p1 ≤ 30) (hK : 0 ≤ K ∧ K ≤ 30000) (hd : 1 ≤ d) (h1 : Has S "_law_feed" (lv 1 c_feed)) (h2 : Has S "_law_right" (lv d (c_rightK K))) {n : Nat} {xs : List D} {L : Hl} {Q : QE} {E : XH} (h : lv (d + 1) c_law (n + 1) xs L Q E) : xs.length = 1 ∧ bodyK (Ph S n) 4 (P.irlawT p0 p1) xs L Q E := by
  obtain ⟨hn, ns, rfl, hl, h⟩ := h
  refine ⟨rfl, ?_⟩
  unfold bodyK P.irlawT
  simp [startD]
  obtain ⟨c, hc, ec⟩ := cells_of ns.length p0 hp0
  rw [show (if 1 < (if p0 < (ns.length : Int) then p0 else (ns.length : Int)) then (if p0 < (ns.length : Int) then p0 else (ns.length : Int)) else 1) = (c : Int) from ec]
  refine ⟨⟨smallR_of (by omega) (by omega), smallR_of (by omega) (by omega)⟩, ?_⟩
  refine forR_i (fun k ds L' => ∃ a b c : Option D, ds = [some (.scr (ns.map .int)), a, b, c]) _ ⟨none, none, none, rfl⟩ ?_ ?_
  · rintro k x ds L' hx ⟨a, b, e, rfl⟩
    refine ⟨trivial, fun M h3 h4 h5 h6 => ?_⟩
    obtain ⟨hk, rfl⟩ := rngD_get hx
    simp
    refine ph h1 ⟨by omega, ns, _, rfl, ⟨hl, by omega, by omega⟩, fun o hF => ?_⟩
    simp
    refine ⟨⟨smallR_of (by omega) (by omega), smallR_of (by omega) (by omega)⟩, ?_⟩
    refine forR_i (fun j ds L2 => ∃ (a b : Option D) (o' : O), ds = [some (.scr (ns.map .int)), a, some (.obj L'.length), b] ∧ L2 = L' ++ [o'] ∧ Fd (j * K) o') _ ⟨_, _, o, rfl, rfl, by simpa using hF⟩ ?_ ?_
    · rintro j x ds L2 hx ⟨a, b, o', rfl, rfl, hF'⟩
      refine ⟨trivial, fun M g3 g4 g5 g6 => ?_⟩
      obtain ⟨hj, rfl⟩ := rngD_get hx
      have hj30 : j < 30 := by omega
      have hjK : (j : Int) * K ≤ 29 * 30000 := Int.mul_le_mul (by omega) (by omega) hK.1 (by decide)
      simp
      refine ph h2 ⟨by omega, L'.length, j * K, rfl, ⟨o', by simp, hF', by omega⟩, by omega, fun o'' hF'' => ?_⟩
      simp
      refine g3 _ _ ⟨_, _, o'', rfl, rfl, ?_⟩
      rw [show ((j + 1 : Nat) : Int) * K = j * K + K by rw [Int.natCast_add, Int.add_mul]; simp]
      exact hF''
    · rintro ds L2 ⟨a, b, o', rfl, rfl, hF'⟩
      exact ⟨trivial, h3 _ _ ⟨_, _, _, rfl⟩⟩
  · rintro ds L' ⟨a, b, e, rfl⟩
    refine ⟨trivial, ?_⟩
    simp
    exact fin_same (h _)
theorem b_law1 {S : Specs} {d : Nat} {K p0 : Int} (hp0 : 1 ≤ p0 ∧ p0 ≤ 10) (hd : 1 ≤ d) (h1 : Has S "_law_feed" (lv 1 c_feed)) (h2 : Has S "_law_right" (lv d (c_rightK K))) {n : Nat} {xs : List D} {L : Hl} {Q : QE} {E : XH} (h : lv (d + 1) c_law (n + 1) xs L Q E) : xs.length = 1 ∧ bodyK (Ph S n) 2 (P.irlaw p0) xs L Q E := by
  obtain ⟨hn, ns, rfl, hl, h⟩ := h
  refine ⟨rfl, ?_⟩
  unfold bodyK P.irlaw
  simp [startD]
  obtain ⟨c, hc, ec⟩ := cells_of ns.length p0 hp0
  rw [show (if 1 < (if p0 < (ns.length : Int) then p0 else (ns.length : Int)) then (if p0 < (ns.length : Int) then p0 else (ns.length : Int)) else 1) = (c : Int) from ec]
  refine ⟨⟨smallR_of (by omega) (by omega), smallR_of (by omega) (by omega)⟩, ?_⟩
  refine forR_i (fun k ds L' => ∃ a : Option D, ds = [some (.scr (ns.map .int)), a]) _ ⟨none, rfl⟩ ?_ ?_
  · rintro k x ds L' hx ⟨a, rfl⟩
    refine ⟨trivial, fun M h3 h4 h5 h6 => ?_⟩
    obtain ⟨hk, rfl⟩ := rngD_get hx
    simp
    refine ph h1 ⟨by omega, ns, _, rfl, ⟨hl, by omega, by omega⟩, fun o hF => ?_⟩
    try dsimp only
    refine ph h2 ⟨by omega, L'.length, 0, rfl, ⟨o, by simp, hF, by omega⟩, by omega, fun o'' hF'' => ?_⟩
    simp
    exact h3 _ _ ⟨_, rfl⟩
  · rintro ds L' ⟨a, rfl⟩
    refine ⟨trivial, ?_⟩
    simp
    exact fin_same (h _)
end Nr

/-! Groups of turnings. -/
namespace Nr
open PySem PySem.Spec PyProof.Rows L2
/-- a row of numbers, as an object -/
def rowD (t : List Nat) : D := .tup (ts t)
theorem rowD_inj {s t : List Nat} (h : rowD s = rowD t) : s = t := by
  unfold rowD ts at h
  have h : s.map nd = t.map nd := by simpa using h
  exact (List.map_inj_right (f := nd) (fun a b e => by simp [nd] at e; omega)).mp h
def lexN : List Nat → List Nat → Bool
  | _, [] => false
  | [], _ :: _ => true
  | a :: s, b :: t => if a = b then lexN s t else decide (a < b)
theorem toPs_cons (x : D) (xs : List D) : toP.toPs (x :: xs) = toP x :: toP.toPs xs := rfl
theorem dlt_row : ∀ s t : List Nat, dlt (rowD s) (rowD t) = lexN s t := by
  have key : ∀ s t : List Nat, PyProof.Rows.lexLt itemOrd (W.keyToksAll (toP.toPs (ts s))) (W.keyToksAll (toP.toPs (ts t))) = lexN s t := by
    intro s
    induction s with
    | nil =>
      intro t
      cases t with
      | nil => rfl
      | cons b t => rfl
    | cons a s ih =>
      intro t
      cases t with
      | nil => rfl
      | cons b t =>
        show PyProof.Rows.lexLt itemOrd (W.keyToksAll (toP (nd a) :: toP.toPs (ts s))) (W.keyToksAll (toP (nd b) :: toP.toPs (ts t))) = _
        have ha : W.alike (toP (nd a)) (toP (nd b)) = true := rfl
        cases e : PyData.eqv (toP (nd a)) (toP (nd b)) with
        | true =>
          rw [W.dataLt_all_yes ha e, ih]
          have : a = b := by
            have := (eqv_noB (n := 0) (k := 0) (x := nd a) (y := nd b) rfl rfl).mp e
            simp [nd] at this
            omega
          simp [lexN, this]
        | false =>
          rw [W.dataLt_all_no ha e]
          have : a ≠ b := fun h => by
            subst h
            rw [(eqv_noB (n := 0) (k := 0) (x := nd a) (y := nd a) rfl rfl).mpr rfl] at e
            cases e
          unfold lexN
          rw [if_neg this]
          show dlt (nd a) (nd b) = _
          simp [nd, dlt_int]
  intro s t
  show W.dataLt (.tuple (toP.toPs (ts s))) (.tuple (toP.toPs (ts t))) = _
  rw [W.dataLt_tuple]
  exact key s t
/-- the ascending row is the least one -/
theorem lexN_range : ∀ (n k : Nat) (t : List Nat), t.length = n → (∀ i ∈ t, k ≤ i) → t.Nodup → (∀ i ∈ t, i < k + n) → lexN t (List.range' k n) = false
  | 0, k, t, hl, _, _, _ => by
    cases t with
    | nil => rfl
    | cons a t => simp at hl
  | n + 1, k, t, hl, h1, h2, h3 => by
    cases t with
    | nil => simp at hl
    | cons a t =>
      rw [List.range'_succ]
      unfold lexN
      by_cases e : a = k
      · rw [if_pos e]
        subst e
        rw [List.nodup_cons] at h2
        refine lexN_range n (a + 1) t (by simpa using hl) (fun i hi => ?_) h2.2 fun i hi => ?_
        · have := h1 i (List.mem_cons_of_mem _ hi)
          have : i ≠ a := fun z => h2.1 (z ▸ hi)
          omega
        · have := h3 i (List.mem_cons_of_mem _ hi)
          omega
      · rw [if_neg e]
        have := h1 a List.mem_cons_self
        simp
        omega
theorem range_least {m : Nat} {t : List Nat} (h : Tur m t) : dlt (rowD t) (rowD (List.range m)) = false := by
  rw [dlt_row, List.range_eq_range']
  exact lexN_range m 0 t h.1 (fun _ _ => Nat.zero_le _) h.2.1 fun i hi => by simpa using h.2.2 i hi
/-- a group of so many places: the ascending list of its turnings -/
structure Grp (m : Nat) (G : List (List Nat)) : Prop where
  tur : ∀ t ∈ G, Tur m t
  one : G.head? = some (List.range m)
  asc : G.Pairwise fun s t => dlt (rowD s) (rowD t) = true
  mul : ∀ s ∈ G, ∀ t ∈ G, aft s t ∈ G
  len : G.length ≤ 120
def gD (G : List (List Nat)) : D := .tup (G.map rowD)
def IsG (m : Nat) (x : D) : Prop := ∃ G, Grp m G ∧ x = gD G
theorem Grp.nodup {m : Nat} {G : List (List Nat)} (h : Grp m G) : G.Nodup := h.asc.imp fun {s t} q e => by
  subst e
  rw [dlt_irrefl] at q
  cases q
theorem Grp.ne {m : Nat} {G : List (List Nat)} (h : Grp m G) : 1 ≤ G.length := by
  have := h.one
  cases G with
  | nil => cases this
  | cons a G => simp
theorem alike_ts : ∀ s t : List Nat, W.alikeAll (toP.toPs (ts s)) (toP.toPs (ts t)) = true := by
  intro s
  induction s with
  | nil => intro t; rfl
  | cons a s ih =>
    intro t
    cases t with
    | nil => rfl
    | cons b t =>
      show W.alikeAll (toP (nd a) :: toP.toPs (ts s)) (toP (nd b) :: toP.toPs (ts t)) = true
      rw [W.alikeAll, ih]
      rfl
theorem alike_row (s t : List Nat) : alikeD (rowD s) (rowD t) = true := by
  show W.alike (.tuple _) (.tuple _) = true
  rw [W.alike]
  exact alike_ts s t
theorem noB_row (s : List Nat) (n : Nat) : noB (n + 1) (rowD s) = true := by
  show noB (n + 1) (.tup (ts s)) = true
  rw [noB, noBs_all]
  simp [ts, nd]
  intro _ _
  cases n <;> rfl
theorem oneK_rows (G : List (List Nat)) : OneK (G.map rowD) := fun x hx => by
  obtain ⟨s, _, rfl⟩ := List.mem_map.mp hx
  refine ⟨noB_row s 59, fun y hy => ?_⟩
  obtain ⟨t, _, rfl⟩ := List.mem_map.mp hy
  exact alike_row s t
theorem nkeys_map : ∀ xs : List D, nkey.nkeys xs = xs.map nkey
  | [] => rfl
  | x :: xs => by rw [nkey.nkeys, List.map_cons, nkeys_map xs]
theorem keyEnc_row : KeyEnc rowD := fun a b => by
  unfold keq
  rw [decide_eq_decide]
  constructor
  · intro h
    have h : NestedKey.tup (nkey.nkeys (ts a)) = .tup (nkey.nkeys (ts b)) := h
    have h : (ts a).map nkey = (ts b).map nkey := by rw [← nkeys_map, ← nkeys_map]; simpa using h
    unfold ts at h
    rw [List.map_map, List.map_map] at h
    exact (List.map_inj_right (f := nkey ∘ nd) (fun x y e => by simp [nd, nkey] at e; omega)).mp h
  · rintro rfl
    rfl
theorem keyOk_row (s : List Nat) : keyOk true (rowD s) = true := by
  show keyN 8 (.tup (ts s)) = true
  rw [keyN]
  simp [ts, nd, keyN]
/-- what stands beside one another ascends: all does -/
theorem adj_asc : ∀ G : List (List Nat), (∀ p ∈ G.zip (G.drop 1), dlt (rowD p.1) (rowD p.2) = true) → G.Pairwise fun s t => dlt (rowD s) (rowD t) = true
  | [], _ => .nil
  | [a], _ => by simp
  | a :: b :: G, h => by
    have h1 : dlt (rowD a) (rowD b) = true := h (a, b) (by simp)
    have ih := adj_asc (b :: G) fun p hp => h p (by
      simp only [List.drop_succ_cons, List.drop_zero] at hp ⊢
      exact List.mem_cons_of_mem _ hp)
    rw [List.pairwise_cons]
    refine ⟨fun c hc => ?_, ih⟩
    rcases List.mem_cons.mp hc with rfl | hc
    · exact h1
    · exact dlt_trans h1 ((List.pairwise_cons.mp ih).1 c hc)
theorem asc_adj {G : List (List Nat)} (h : G.Pairwise fun s t => dlt (rowD s) (rowD t) = true) : ∀ p ∈ G.zip (G.drop 1), dlt (rowD p.1) (rowD p.2) = true := by
  induction G with
  | nil => simp
  | cons a G ih =>
    cases G with
    | nil => simp
    | cons b G =>
      intro p hp
      rw [List.pairwise_cons] at h
      simp only [List.drop_succ_cons, List.drop_zero, List.zip_cons_cons, List.mem_cons] at hp
      rcases hp with rfl | hp
      · exact h.1 b List.mem_cons_self
      · exact ih h.2 p (by simpa using hp)
theorem zip_maps {α : Type} (f : α → D) : ∀ xs ys : List α, zipD (xs.map f) (ys.map f) = (xs.zip ys).map fun p => .tup [f p.1, f p.2]
  | [], _ => by simp [zipD]
  | _ :: _, [] => by simp [zipD]
  | x :: xs, y :: ys => by simp [zipD, zip_maps f xs ys]
end Nr

/-! Groups of turnings: what the functions tell. -/
namespace Nr
open PySem PySem.Spec PyProof.Rows L2
theorem gd_ty {n : Nat} {x : D} (h : gd n x = true) : ty x = true := by
  cases x <;> first | rfl | (cases n <;> cases h)
theorem gd_okR {n : Nat} {x : D} (h : gd n x = true) : okR x = true := by
  cases n with
  | zero => cases x <;> cases h
  | succ n =>
    cases x <;> first | rfl | (cases h; done) | skip
    simp only [gd, Bool.and_eq_true, decide_eq_true_eq, List.all_eq_true] at h
    simp only [okR, ty, Bool.true_and, Bool.and_eq_true, decide_eq_true_eq, List.all_eq_true]
    exact ⟨h.1, fun y hy => gd_ty (h.2 y hy)⟩
theorem gd_tup {n : Nat} {xs : List D} (h : gd n (.tup xs) = true) : xs.length ≤ sizeLine ∧ ∃ k, n = k + 1 ∧ ∀ x ∈ xs, gd k x = true := by
  cases n with
  | zero => cases h
  | succ n =>
    simp only [gd, Bool.and_eq_true, decide_eq_true_eq, List.all_eq_true] at h
    exact ⟨h.1, n, rfl, h.2⟩
theorem gd_row (t : List Nat) (n : Nat) (h : t.length ≤ 1000) : gd (n + 2) (rowD t) = true := gd_ts h
theorem gd_gD {m : Nat} {G : List (List Nat)} (h : Grp m G) (hm : m ≤ 6) (n : Nat) : gd (n + 3) (gD G) = true := by
  show gd (n + 3) (.tup (G.map rowD)) = true
  simp only [gd, Bool.and_eq_true, decide_eq_true_eq, List.all_eq_true]
  refine ⟨by have := h.len; rw [List.length_map, sizeLine_eq]; omega, fun x hx => ?_⟩
  obtain ⟨t, ht, rfl⟩ := List.mem_map.mp hx
  exact gd_row t n (by have := (h.tur t ht).1; omega)
def c_still : Ct := fun xs L Q E => ∃ m : Nat, xs = [.int m] ∧ m ≤ 1000 ∧ Q (rowD (List.range m)) L
theorem b_still {Φ : Phi} {n : Nat} {xs : List D} {L : Hl} {Q : QE} {E : XH} (h : lv 1 c_still n xs L Q E) : xs.length = 1 ∧ bodyK Φ 1 P.irstill xs L Q E := by
  obtain ⟨_, m, rfl, hm, h⟩ := h
  refine ⟨rfl, ?_⟩
  unfold bodyK P.irstill
  simp [startD]
  refine ⟨by unfold RgOk; simp; omega, ?_⟩
  rw [rng0]
  exact fin_same h
/-- an integer in bounds, or the error -/
def c_need_number : Ct := fun xs L Q E => ∃ x a b, xs = [x, .int a, .int b] ∧ ty x = true ∧ (isI a b x = true → Q .non L) ∧ (isI a b x = false → E "BadNumber" L)
theorem b_need_number {S : Specs} (h1 : Has S "is_integer" (lv 1 c_is_integer)) {n : Nat} {xs : List D} {L : Hl} {Q : QE} {E : XH} (h : lv 2 c_need_number (n + 1) xs L Q E) : xs.length = 3 ∧ bodyK (Ph S n) 3 P.irneed_number xs L Q E := by
  obtain ⟨hn, x, a, b, rfl, hx, h2, h3⟩ := h
  refine ⟨rfl, ?_⟩
  unfold bodyK P.irneed_number
  simp [startD]
  refine ph h1 ⟨by omega, x, a, b, rfl, hx, ?_⟩
  simp
  cases e : isI a b x with
  | true => simp only [Bool.false_eq_true, reduceIte]; exact fin_same (h2 e)
  | false => simp only [Bool.false_eq_true, reduceIte]; exact finX_same (ds := []) (h3 e)
def c_is_group_form : Ct := fun xs L Q E => ∃ (m : Nat) (x : D) (k : Nat), xs = [.int m, x] ∧ m ≤ 6 ∧ gd k x = true ∧ (IsG m x → Q (.bl true) L) ∧ (¬ IsG m x → Q (.bl false) L)
theorem gD_all {m : Nat} {ys : List D} (h : ∀ y ∈ ys, turnF m y = true) : ∃ G : List (List Nat), ys = G.map rowD ∧ ∀ t ∈ G, Tur m t := by
  induction ys with
  | nil => exact ⟨[], rfl, by simp⟩
  | cons y ys ih =>
    obtain ⟨t, ht, rfl⟩ := turnF_is (h y List.mem_cons_self)
    obtain ⟨G, rfl, hG⟩ := ih fun y hy => h y (List.mem_cons_of_mem _ hy)
    exact ⟨t :: G, rfl, fun u hu => by
      rcases List.mem_cons.mp hu with rfl | hu
      · exact ht
      · exact hG u hu⟩
theorem gD_inj {G H : List (List Nat)} (h : G.map rowD = H.map rowD) : G = H := (List.map_inj_right (f := rowD) fun a b e => rowD_inj e).mp h
theorem bls_ints (bs : List Bool) : blsOf (bs.map .bl) = some bs := by
  have := bls_map (fun b : Bool => b) bs
  simpa using this
theorem bls_grid {α β : Type} (xs : List α) (ys : List β) (f : α → β → Bool) : (xs.flatMap fun s => ys.map fun t => D.bl (f s t)) = (xs.flatMap fun s => ys.map fun t => f s t).map .bl := by
  rw [List.map_flatMap]
  congr 1
  funext s
  rw [List.map_map]
  rfl
theorem b_is_group_form {S : Specs} (h1 : Has S "is_turning_form" (lv 3 c_is_turning_form)) (h2 : Has S "still" (lv 1 c_still)) (h3 : Has S "turned_by" (lv 1 c_turned_by)) {n : Nat} {xs : List D} {L : Hl} {Q : QE} {E : XH} (h : lv 4 c_is_group_form (n + 1) xs L Q E) : xs.length = 2 ∧ bodyK (Ph S n) 5 P.iris_group_form xs L Q E := by
  obtain ⟨hn, m, x, k, rfl, hm, hg, hT, hF⟩ := h
  refine ⟨rfl, ?_⟩
  unfold bodyK
  obtain ⟨R, hR⟩ : ∃ R, dropS 1 P.iris_group_form = R := ⟨_, rfl⟩
  refine seg 1 hR ?_
  by_cases hx : ∃ ys, x = .tup ys
  · obtain ⟨ys, rfl⟩ := hx
    simp [startD, takeS, P.iris_group_form, tnIs]
    obtain ⟨hl, k', rfl, hk⟩ := gd_tup hg
    have bad : ¬ (1 ≤ ys.length ∧ ys.length ≤ 120) → Nr.Fin L Q (.bl false) L := fun z => fin_same (hF fun ⟨G, h, e⟩ => z (by
      have e : ys = G.map rowD := by simpa [gD] using e
      rw [e, List.length_map]
      exact ⟨h.ne, h.len⟩))
    by_cases hb : 1 ≤ ys.length ∧ ys.length ≤ 120
    · have e1 : (1 : Int) ≤ ys.length := by omega
      have e2 : (ys.length : Int) ≤ 120 := by omega
      simp [e1, e2]
      subst hR
      obtain ⟨R, hR⟩ : ∃ R, dropS 1 (dropS 1 P.iris_group_form) = R := ⟨_, rfl⟩
      refine seg 1 hR ?_
      simp [dropS, takeS, P.iris_group_form]
      refine lcR_map (fun y => .bl (turnF m y)) (by trivial) ys [] (by simpa using hl) (fun y hy k hk' => ?_) ?_
      · simp [wipeD]
        exact ph h1 ⟨by omega, y, m, rfl, gd_okR (hk y hy), hk'⟩
      · simp [bls_map]
        rw [allB_map]
        cases ha : ys.all (turnF m) with
        | false =>
          simp only [Bool.false_eq_true, reduceIte]
          refine fin_same (hF fun ⟨G, h, e⟩ => ?_)
          have e : ys = G.map rowD := by simpa [gD] using e
          rw [e, List.all_map, List.all_eq_false] at ha
          obtain ⟨t, ht, q⟩ := ha
          exact q (turnF_of (h.tur t ht))
        | true =>
          simp only [Bool.false_eq_true, reduceIte]
          obtain ⟨G, rfl, hG⟩ := gD_all (List.all_eq_true.mp ha)
          obtain ⟨g0, G', rfl⟩ : ∃ g0 G', G = g0 :: G' := by
            cases G with
            | nil => simp at hb
            | cons a G => exact ⟨a, G, rfl⟩
          simp
          refine ph h2 ⟨by omega, m, rfl, by omega, ?_⟩
          refine c_ned (noB_row g0 59) (noB_row _ 59) (g0 = List.range m) (show rowD g0 = rowD _ ↔ _ from ⟨fun e => rowD_inj e, fun e => by rw [e]⟩) ?_
          simp
          by_cases hone : g0 = List.range m
          · rw [if_pos hone]
            subst hR
            obtain ⟨R, hR⟩ : ∃ R, dropS 1 (dropS 1 (dropS 1 P.iris_group_form)) = R := ⟨_, rfl⟩
            refine seg 1 hR ?_
            have ez : zipD (rowD g0 :: G'.map rowD) (G'.map rowD) = ((g0 :: G').zip G').map fun p => .tup [rowD p.1, rowD p.2] := zip_maps rowD (g0 :: G') G'
            simp [dropS, takeS, P.iris_group_form, ez]
            refine lcR_m (enc := fun p => D.tup [rowD p.1, rowD p.2]) (f := fun p => .bl (dlt (rowD p.1) (rowD p.2))) ((g0 :: G').zip G') (show Src.ok (.fixed _) _ from trivial) (by simp at hl ⊢; omega) (fun p hp k hk' => ?_) ?_
            · simp [wipeD]
              show cmpK .lt _ (.tup (ts p.1)) (.tup (ts p.2)) _
              rw [c_ltt]
              exact ⟨⟨plain_noB (noB_row _ 59), plain_noB (noB_row _ 59), alike_row _ _⟩, hk'⟩
            · simp [bls_map]
              rw [allB_map]
              cases hz : ((g0 :: G').zip G').all fun p => dlt (rowD p.1) (rowD p.2) with
              | false =>
                simp only [Bool.false_eq_true, reduceIte]
                refine fin_same (hF fun ⟨G, h, e⟩ => ?_)
                have e : g0 :: G' = G := gD_inj (by simpa [gD] using e)
                rw [← e] at h
                rw [List.all_eq_false] at hz
                obtain ⟨p, hp, q⟩ := hz
                exact q (asc_adj h.asc p hp)
              | true =>
                simp only [Bool.false_eq_true, reduceIte]
                have hasc := adj_asc (g0 :: G') (List.all_eq_true.mp hz)
                subst hR
                obtain ⟨R, hR⟩ : ∃ R, dropS 1 (dropS 1 (dropS 1 (dropS 1 P.iris_group_form))) = R := ⟨_, rfl⟩
                refine seg 1 hR ?_
                simp [dropS, takeS, P.iris_group_form]
                refine dcR_set (enc := rowD) (eb := rowD) (kf := id) keyEnc_row (g0 :: G') (by trivial) (fun b _ => keyOk_row b) (by simpa using hl) (fun b _ k hk' => ?_) fun vs hv => ?_
                · simp [wipeD]
                  exact hk' _
                · subst hR
                  rw [List.map_id]
                  simp [dropS, P.iris_group_form]
                  have hlen : (g0 :: G').length ≤ 120 := by simpa using hb.2
                  refine lcR2_t (enc := rowD) (fun s => (g0 :: G').map fun t => .bl (decide (aft s t ∈ g0 :: G'))) (g0 :: G') (show Src.ok (.fixed _) _ from trivial) ?_ (fun s hs acc k hacc hk' => ?_) ?_
                  · have : ∀ l : List (List Nat), (l.flatMap fun s => (g0 :: G').map fun t => D.bl (decide (aft s t ∈ g0 :: G'))).length = l.length * (g0 :: G').length := fun l => by
                      induction l with
                      | nil => simp
                      | cons a l ih => rw [List.flatMap_cons, List.length_append, ih, List.length_map, List.length_cons (as := l), Nat.succ_mul]; omega
                    rw [this, sizeLine_eq]
                    have := Nat.mul_le_mul hlen hlen
                    omega
                  · simp [wipeD]
                    refine lcR_acc (enc := rowD) (f := fun t => some (.bl (decide (aft s t ∈ g0 :: G')))) (g0 :: G') acc (show Src.ok (.fixed _) _ from trivial) (by simpa using hacc) (fun t ht k2 hk2 => ?_) (by simpa [List.filterMap_eq_map'] using hk')
                    have hst : ∀ i ∈ s, i < t.length := fun i hi => by rw [(hG t ht).1]; exact (hG s hs).2.2 i hi
                    refine ph h3 ⟨by omega, s, ts t, rfl, fun i hi => by simpa [ts] using hst i hi, by rw [(hG s hs).1, sizeLine_eq]; omega, ?_⟩
                    rw [tb_of hst]
                    show keyOk true (rowD (aft s t)) = true ∧ k2 (some (D.bl (dhas (List.map rowD (uniq (g0 :: G'))) (rowD (aft s t))))) L
                    rw [dhas_enc keyEnc_row]
                    refine ⟨keyOk_row _, ?_⟩
                    refine Eq.subst (motive := fun b => k2 (some (D.bl b)) L) ?_ hk2
                    exact decide_eq_decide.mpr uniq_mem.symm
                  · have eb : ((g0 :: G').flatMap fun s => (g0 :: G').map fun t => D.bl (decide (aft s t ∈ g0 :: G'))) = (((g0 :: G').flatMap fun s => (g0 :: G').map fun t => decide (aft s t ∈ g0 :: G')).map .bl) := bls_grid _ _ _
                    rw [eb]
                    refine ⟨_, bls_ints _, ?_⟩
                    by_cases hc : ∀ s ∈ g0 :: G', ∀ t ∈ g0 :: G', aft s t ∈ g0 :: G'
                    · have : allB ((g0 :: G').flatMap fun s => (g0 :: G').map fun t => decide (aft s t ∈ g0 :: G')) = true := by
                        unfold allB
                        rw [List.all_eq_true]
                        intro b hb
                        obtain ⟨s, hs, hb⟩ := List.mem_flatMap.mp hb
                        obtain ⟨t, ht, rfl⟩ := List.mem_map.mp hb
                        simpa using hc s hs t ht
                      rw [this]
                      exact fin_same (hT ⟨g0 :: G', ⟨hG, by rw [hone]; rfl, hasc, hc, hlen⟩, rfl⟩)
                    · have : allB ((g0 :: G').flatMap fun s => (g0 :: G').map fun t => decide (aft s t ∈ g0 :: G')) = false := by
                        cases q : allB ((g0 :: G').flatMap fun s => (g0 :: G').map fun t => decide (aft s t ∈ g0 :: G')) with
                        | false => rfl
                        | true =>
                          exfalso
                          refine hc fun s hs t ht => ?_
                          unfold allB at q
                          have := List.all_eq_true.mp q _ (List.mem_flatMap.mpr ⟨s, hs, List.mem_map.mpr ⟨t, ht, rfl⟩⟩)
                          simpa using this
                      rw [this]
                      refine fin_same (hF fun ⟨G, h, e⟩ => hc ?_)
                      have e : g0 :: G' = G := gD_inj (by simpa [gD] using e)
                      rw [e]
                      exact h.mul
          · rw [if_neg hone]
            refine fin_same (hF fun ⟨G, h, e⟩ => hone ?_)
            have e : g0 :: G' = G := gD_inj (by simpa [gD] using e)
            have := h.one
            rw [← e] at this
            simpa using this
    · by_cases e1 : (1 : Int) ≤ ys.length
      · have e2 : ¬ (ys.length : Int) ≤ 120 := by omega
        simp [e1, e2]
        exact bad hb
      · simp [e1]
        exact bad hb
  · have hF' := hF fun ⟨G, h, e⟩ => hx ⟨_, e⟩
    have hty := gd_ty hg
    cases x <;> first | (cases hty; done) | (exact absurd ⟨_, rfl⟩ hx) | skip
    all_goals simp [startD, takeS, P.iris_group_form, tnIs]
    all_goals exact fin_same hF'
end Nr

/-! Kinds, sets. -/
namespace Nr
open PySem PySem.Spec PyProof.Rows L2
/-- a kind: places, a group -/
abbrev Kd : Type := Nat × List (List Nat)
def kD (k : Kd) : D := .tup [.int k.1, gD k.2]
def KOk (k : Kd) : Prop := k.1 ≤ 6 ∧ Grp k.1 k.2
def IsK (x : D) : Prop := ∃ k, KOk k ∧ x = kD k
def sD (S : List Kd) : D := .tup (S.map kD)
def SOk (S : List Kd) : Prop := S.length ≤ 300 ∧ ∀ k ∈ S, KOk k
def IsS (x : D) : Prop := ∃ S, SOk S ∧ x = sD S
theorem gd_kD {k : Kd} (h : KOk k) (n : Nat) : gd (n + 4) (kD k) = true := by
  show gd (n + 4) (.tup [.int k.1, gD k.2]) = true
  rw [gd]
  simp only [List.all_cons, List.all_nil, Bool.and_true, Bool.and_eq_true, decide_eq_true_eq]
  exact ⟨by simp [sizeLine_eq], rfl, gd_gD h.2 h.1 n⟩
theorem gd_sD {S : List Kd} (h : SOk S) (n : Nat) : gd (n + 5) (sD S) = true := by
  show gd (n + 5) (.tup (S.map kD)) = true
  simp only [gd, Bool.and_eq_true, decide_eq_true_eq, List.all_eq_true]
  refine ⟨by have := h.1; rw [List.length_map, sizeLine_eq]; omega, fun x hx => ?_⟩
  obtain ⟨k, hk, rfl⟩ := List.mem_map.mp hx
  exact gd_kD (h.2 k hk) n
theorem gD_inj' {G H : List (List Nat)} (h : gD G = gD H) : G = H := gD_inj (by simpa [gD] using h)
theorem kD_inj {j k : Kd} (h : kD j = kD k) : j = k := by
  unfold kD at h
  have h : (j.1 : Int) = k.1 ∧ gD j.2 = gD k.2 := by simpa using h
  exact Prod.ext (by omega) (gD_inj' h.2)
theorem sD_inj {S T : List Kd} (h : sD S = sD T) : S = T := (List.map_inj_right (f := kD) fun a b e => kD_inj e).mp (by simpa [sD] using h)
def c_need_group : Ct := fun xs L Q E => ∃ (m : Nat) (x : D) (k : Nat), xs = [.int m, x] ∧ m ≤ 6 ∧ gd k x = true ∧ (IsG m x → Q .non L) ∧ (¬ IsG m x → E "BadGroup" L)
theorem b_need_group {S : Specs} (h1 : Has S "is_group_form" (lv 4 c_is_group_form)) {n : Nat} {xs : List D} {L : Hl} {Q : QE} {E : XH} (h : lv 5 c_need_group (n + 1) xs L Q E) : xs.length = 2 ∧ bodyK (Ph S n) 2 P.irneed_group xs L Q E := by
  obtain ⟨hn, m, x, k, rfl, hm, hg, hT, hF⟩ := h
  refine ⟨rfl, ?_⟩
  unfold bodyK P.irneed_group
  simp [startD]
  refine ph h1 ⟨by omega, m, x, k, rfl, hm, hg, fun h => ?_, fun h => ?_⟩
  · simp
    exact fin_same (hT h)
  · simp
    exact finX_same (ds := []) (hF h)
def c_is_many : Ct := fun xs L Q E => ∃ x, xs = [x] ∧ ty x = true ∧ Q (.bl (isI 0 6 x)) L
theorem b_is_many {S : Specs} (h1 : Has S "is_integer" (lv 1 c_is_integer)) {n : Nat} {xs : List D} {L : Hl} {Q : QE} {E : XH} (h : lv 2 c_is_many (n + 1) xs L Q E) : xs.length = 1 ∧ bodyK (Ph S n) 1 P.iris_many xs L Q E := by
  obtain ⟨hn, x, rfl, hx, h⟩ := h
  refine ⟨rfl, ?_⟩
  unfold bodyK P.iris_many
  simp [startD]
  exact ph h1 ⟨by omega, x, _, _, rfl, hx, fin_same h⟩
def c_is_kind_form : Ct := fun xs L Q E => ∃ (x : D) (k : Nat), xs = [x] ∧ gd k x = true ∧ (IsK x → Q (.bl true) L) ∧ (¬ IsK x → Q (.bl false) L)
theorem b_is_kind_form {S : Specs} (h1 : Has S "is_many" (lv 2 c_is_many)) (h2 : Has S "is_group_form" (lv 4 c_is_group_form)) {n : Nat} {xs : List D} {L : Hl} {Q : QE} {E : XH} (h : lv 5 c_is_kind_form (n + 1) xs L Q E) : xs.length = 1 ∧ bodyK (Ph S n) 1 P.iris_kind_form xs L Q E := by
  obtain ⟨hn, x, k, rfl, hg, hT, hF⟩ := h
  refine ⟨rfl, ?_⟩
  unfold bodyK P.iris_kind_form
  by_cases hx : ∃ a b, x = .tup [a, b]
  · obtain ⟨a, b, rfl⟩ := hx
    obtain ⟨_, k', rfl, hk⟩ := gd_tup hg
    simp [startD, tnIs]
    refine ph h1 ⟨by omega, a, rfl, gd_ty (hk a (by simp)), ?_⟩
    simp
    cases e : isI 0 6 a with
    | false =>
      simp only [Bool.false_eq_true, reduceIte]
      refine fin_same (hF fun ⟨k, h, e2⟩ => ?_)
      have e2 : a = .int k.1 ∧ b = gD k.2 := by simpa [kD] using e2
      rw [e2.1] at e
      have := h.1
      simp [isI] at e
      omega
    | true =>
      simp only [Bool.false_eq_true, reduceIte]
      obtain ⟨i, rfl, i0, i6⟩ := isI_int e
      obtain ⟨m, rfl⟩ : ∃ m : Nat, i = m := ⟨i.toNat, by omega⟩
      refine ph h2 ⟨by omega, m, b, k', rfl, by omega, hk b (by simp), fun h => fin_same (hT ?_), fun h => fin_same (hF fun ⟨k, h', e2⟩ => h ?_)⟩
      · obtain ⟨G, hG, rfl⟩ := h
        exact ⟨(m, G), ⟨by show m ≤ 6; omega, hG⟩, rfl⟩
      · have e2 : (m : Int) = k.1 ∧ b = gD k.2 := by simpa [kD] using e2
        have : m = k.1 := by omega
        rw [this]
        exact ⟨k.2, h'.2, e2.2⟩
  · have hF' := hF fun ⟨k, h, e⟩ => hx ⟨_, _, e⟩
    have hty := gd_ty hg
    cases x <;> first | (cases hty; done) | skip
    case tup ys =>
      have : ¬ ys.length = 2 := fun z => hx (by
        match ys, z with
        | [a, b], _ => exact ⟨a, b, rfl⟩)
      have : ¬ (ys.length : Int) = 2 := by omega
      simp [startD, tnIs, this]
      exact fin_same hF'
    all_goals
      simp [startD, tnIs]
      exact fin_same hF'
def c_is_set_form : Ct := fun xs L Q E => ∃ (x : D) (k : Nat), xs = [x] ∧ gd k x = true ∧ (IsS x → Q (.bl true) L) ∧ (¬ IsS x → Q (.bl false) L)
theorem kinds_of {ys : List D} (h : ∀ y ∈ ys, IsK y) : ∃ S : List Kd, ys = S.map kD ∧ ∀ k ∈ S, KOk k := by
  induction ys with
  | nil => exact ⟨[], rfl, by simp⟩
  | cons y ys ih =>
    obtain ⟨k, hk, rfl⟩ := h y List.mem_cons_self
    obtain ⟨S, rfl, hS⟩ := ih fun y hy => h y (List.mem_cons_of_mem _ hy)
    exact ⟨k :: S, rfl, fun j hj => (List.mem_cons.mp hj).elim (fun e => e ▸ hk) (hS j)⟩
open Classical in
theorem b_is_set_form {S : Specs} (h1 : Has S "is_kind_form" (lv 5 c_is_kind_form)) {n : Nat} {xs : List D} {L : Hl} {Q : QE} {E : XH} (h : lv 6 c_is_set_form (n + 1) xs L Q E) : xs.length = 1 ∧ bodyK (Ph S n) 2 P.iris_set_form xs L Q E := by
  obtain ⟨hn, x, k, rfl, hg, hT, hF⟩ := h
  refine ⟨rfl, ?_⟩
  unfold bodyK P.iris_set_form
  by_cases hx : ∃ ys, x = .tup ys
  · obtain ⟨ys, rfl⟩ := hx
    obtain ⟨hl, k', rfl, hk⟩ := gd_tup hg
    simp [startD, tnIs]
    by_cases hlen : ys.length ≤ 300
    · have : ¬ 300 < (ys.length : Int) := by omega
      simp [this]
      refine lcR_map (fun y => .bl (decide (IsK y))) (show Src.ok (.fixed _) _ from trivial) ys [] (by simpa using hl) (fun y hy k2 hk2 => ?_) ?_
      · simp [wipeD]
        refine ph h1 ⟨by omega, y, k', rfl, hk y hy, fun h => ?_, fun h => ?_⟩
        · rw [decide_eq_true h] at hk2
          exact hk2
        · rw [decide_eq_false h] at hk2
          exact hk2
      · simp [bls_map]
        rw [allB_map]
        by_cases hall : ∀ y ∈ ys, IsK y
        · have : (ys.all fun y => decide (IsK y)) = true := by simpa using hall
          rw [this]
          obtain ⟨T, rfl, hT'⟩ := kinds_of hall
          exact fin_same (hT ⟨T, ⟨by simpa using hlen, hT'⟩, rfl⟩)
        · have : (ys.all fun y => decide (IsK y)) = false := by
            cases q : ys.all fun y => decide (IsK y) with
            | false => rfl
            | true => exact absurd (by simpa using q) hall
          rw [this]
          refine fin_same (hF fun ⟨T, h, e⟩ => hall ?_)
          have e : ys = T.map kD := by simpa [sD] using e
          rw [e]
          intro y hy
          obtain ⟨k, hk, rfl⟩ := List.mem_map.mp hy
          exact ⟨k, h.2 k hk, rfl⟩
    · have : 300 < (ys.length : Int) := by omega
      simp [this]
      refine fin_same (hF fun ⟨T, h, e⟩ => hlen ?_)
      have e : ys = T.map kD := by simpa [sD] using e
      rw [e, List.length_map]
      exact h.1
  · have hF' := hF fun ⟨k, h, e⟩ => hx ⟨_, e⟩
    have hty := gd_ty hg
    cases x <;> first | (cases hty; done) | (exact absurd ⟨_, rfl⟩ hx) | skip
    all_goals
      simp [startD, tnIs]
      exact fin_same hF'
def c_need_set : Ct := fun xs L Q E => ∃ (x : D) (k : Nat), xs = [x] ∧ gd k x = true ∧ (IsS x → Q .non L) ∧ (¬ IsS x → E "BadSet" L)
theorem b_need_set {S : Specs} (h1 : Has S "is_set_form" (lv 6 c_is_set_form)) {n : Nat} {xs : List D} {L : Hl} {Q : QE} {E : XH} (h : lv 7 c_need_set (n + 1) xs L Q E) : xs.length = 1 ∧ bodyK (Ph S n) 1 P.irneed_set xs L Q E := by
  obtain ⟨hn, x, k, rfl, hg, hT, hF⟩ := h
  refine ⟨rfl, ?_⟩
  unfold bodyK P.irneed_set
  simp [startD]
  refine ph h1 ⟨by omega, x, k, rfl, hg, fun h => ?_, fun h => ?_⟩
  · simp
    exact fin_same (hT h)
  · simp
    exact finX_same (ds := []) (hF h)
/-- a right set is asked for -/
theorem use_set {S : Specs} (h1 : Has S "need_set" (lv 7 c_need_set)) {n : Nat} (hn : 7 ≤ n) {T : List Kd} (hT : SOk T) {L : Hl} {Q : QE} {E : XH} (q : Q .non L) : Ph S n "need_set" [sD T] L Q E :=
  ph h1 ⟨hn, _, 5, rfl, gd_sD hT 0, fun _ => q, fun h => absurd ⟨T, hT, rfl⟩ h⟩
end Nr

/-! The law's own groups: all rows, closures, draws. -/
namespace Nr
open PySem PySem.Spec PyProof.Rows L2
theorem b_lturned {Φ : Phi} {n : Nat} {xs : List D} {L : Hl} {Q : QE} {E : XH} (h : lv 1 c_turned_by n xs L Q E) : xs.length = 2 ∧ bodyK Φ 3 P.ir_law_turned xs L Q E := by
  obtain ⟨hn, t, r, rfl, ht, hl, h⟩ := h
  refine ⟨rfl, ?_⟩
  unfold bodyK P.ir_law_turned
  simp [startD]
  refine lcR_m (enc := nd) (f := fun i => r.getD i .non) t (show Src.ok (.fixed _) _ from trivial) hl (fun i hi k hk => ?_) ?_
  · simp [wipeD, nd]
    rw [List.getElem?_eq_getElem (ht i hi)]
    refine ⟨_, rfl, ?_⟩
    simpa [ht i hi] using hk
  · simp
    exact fin_same h
/-- rows with one entry more -/
def longer (rows : List (List Nat)) (many : Nat) : List (List Nat) := rows.flatMap fun r => ((List.range many).filter fun p => decide (p ∉ r)).map fun p => r ++ [p]
/-- all rows of so many unlike entries below many -/
def rowsOf (many : Nat) : Nat → List (List Nat)
  | 0 => [[]]
  | k + 1 => longer (rowsOf many k) many
theorem longer_mem {rows : List (List Nat)} {many : Nat} {s : List Nat} : s ∈ longer rows many ↔ ∃ r ∈ rows, ∃ p, p < many ∧ p ∉ r ∧ s = r ++ [p] := by
  unfold longer
  simp only [List.mem_flatMap, List.mem_map, List.mem_filter, List.mem_range, decide_eq_true_eq]
  constructor
  · rintro ⟨r, hr, p, ⟨h1, h2⟩, rfl⟩
    exact ⟨r, hr, p, h1, h2, rfl⟩
  · rintro ⟨r, hr, p, h1, h2, rfl⟩
    exact ⟨r, hr, p, ⟨h1, h2⟩, rfl⟩
theorem rowsOf_mem {many : Nat} : ∀ {k : Nat} {s : List Nat}, s ∈ rowsOf many k ↔ s.length = k ∧ s.Nodup ∧ ∀ i ∈ s, i < many
  | 0, s => by
    simp only [rowsOf, List.mem_singleton]
    constructor
    · rintro rfl
      simp
    · rintro ⟨h, _⟩
      exact List.eq_nil_of_length_eq_zero h
  | k + 1, s => by
    show s ∈ longer (rowsOf many k) many ↔ _
    rw [longer_mem]
    constructor
    · rintro ⟨r, hr, p, hp, hn, rfl⟩
      obtain ⟨h1, h2, h3⟩ := rowsOf_mem.mp hr
      refine ⟨by simp [h1], ?_, fun i hi => ?_⟩
      · rw [List.nodup_append]
        exact ⟨h2, by simp, fun a ha b hb e => by simp at hb; subst hb; subst e; exact hn ha⟩
      · rcases List.mem_append.mp hi with hi | hi
        · exact h3 i hi
        · simp at hi; subst hi; exact hp
    · rintro ⟨h1, h2, h3⟩
      have hne : s ≠ [] := by rintro rfl; simp at h1
      have e := List.dropLast_concat_getLast hne
      refine ⟨s.dropLast, rowsOf_mem.mpr ⟨by simp [h1], ?_, fun i hi => h3 i ((List.dropLast_sublist s).subset hi)⟩, s.getLast hne, h3 _ (List.getLast_mem hne), ?_, e.symm⟩
      · rw [← e, List.nodup_append] at h2
        exact h2.1
      · intro z
        rw [← e, List.nodup_append] at h2
        exact h2.2.2 _ z _ (by simp) rfl
theorem longer_nodup {rows : List (List Nat)} {many : Nat} (h : rows.Nodup) : (longer rows many).Nodup := by
  induction rows with
  | nil => simp [longer]
  | cons r rows ih =>
    rw [List.nodup_cons] at h
    show (((List.range many).filter fun p => decide (p ∉ r)).map (fun p => r ++ [p]) ++ longer rows many).Nodup
    rw [List.nodup_append]
    refine ⟨nodup_map (fun x _ y _ e => by simpa using e) (List.nodup_range.filter _), ih h.2, fun a ha b hb e => ?_⟩
    subst e
    obtain ⟨p, _, rfl⟩ := List.mem_map.mp ha
    obtain ⟨r', hr', p', _, _, e⟩ := longer_mem.mp hb
    have : r = r' := by
      have := congrArg List.dropLast e
      simpa using this
    exact h.1 (this ▸ hr')
theorem rowsOf_nodup (many : Nat) : ∀ k, (rowsOf many k).Nodup
  | 0 => by simp [rowsOf]
  | k + 1 => longer_nodup (rowsOf_nodup many k)
theorem rowsOf_tur {m : Nat} {t : List Nat} : t ∈ rowsOf m m ↔ Tur m t := rowsOf_mem
theorem filter_notin {many : Nat} {r : List Nat} (h2 : r.Nodup) (h3 : ∀ i ∈ r, i < many) : ((List.range many).filter fun p => decide (p ∉ r)).length = many - r.length := by
  have e1 := List.length_eq_countP_add_countP (fun p => decide (p ∈ r)) (l := List.range many)
  rw [List.countP_eq_length_filter, List.countP_eq_length_filter] at e1
  have e2 : ((List.range many).filter fun p => decide (p ∈ r)).Perm r := by
    refine (List.perm_ext_iff_of_nodup (List.nodup_range.filter _) h2).mpr fun a => ?_
    simp only [List.mem_filter, List.mem_range, decide_eq_true_eq]
    exact ⟨fun h => h.2, fun h => ⟨h3 a h, h⟩⟩
  have e3 := e2.length_eq
  have e4 : ((List.range many).filter fun p => decide (p ∉ r)) = (List.range many).filter fun p => decide ¬ decide (p ∈ r) = true := by
    congr 1
    funext p
    simp
  rw [e4]
  simp only [List.length_range] at e1
  omega
theorem longer_len {rows : List (List Nat)} {many k : Nat} (h : ∀ r ∈ rows, r.length = k ∧ r.Nodup ∧ ∀ i ∈ r, i < many) : (longer rows many).length = rows.length * (many - k) := by
  induction rows with
  | nil => simp [longer]
  | cons r rows ih =>
    show (((List.range many).filter fun p => decide (p ∉ r)).map (fun p => r ++ [p]) ++ longer rows many).length = _
    obtain ⟨h1, h2, h3⟩ := h r List.mem_cons_self
    rw [List.length_append, List.length_map, filter_notin h2 h3, ih fun r hr => h r (List.mem_cons_of_mem _ hr), h1, List.length_cons, Nat.succ_mul]
    omega
/-- how many rows there are -/
def falls (many : Nat) : Nat → Nat
  | 0 => 1
  | k + 1 => falls many k * (many - k)
theorem rowsOf_len (many : Nat) : ∀ k, (rowsOf many k).length = falls many k
  | 0 => rfl
  | k + 1 => by
    show (longer (rowsOf many k) many).length = _
    rw [longer_len (k := k) (fun r hr => rowsOf_mem.mp hr), rowsOf_len many k]
    rfl
/-- told rows, one entry longer -/
def c_longer : Ct := fun xs L Q E => ∃ (rows : List (List Nat)) (many k : Nat), xs = [.lst (rows.map rowD), .int many] ∧ (∀ r ∈ rows, r.length = k ∧ r.Nodup ∧ ∀ i ∈ r, i < many) ∧ k ≤ 1000 ∧ many ≤ 1000000 ∧ rows.length * many ≤ 1000000 ∧ Q (.lst ((longer rows many).map rowD)) L
theorem has_nd {p : Nat} {r : List Nat} : hasD (nd p) (ts r) = decide (p ∈ r) := by
  unfold hasD ts
  rw [List.any_map]
  induction r with
  | nil => simp
  | cons a r ih =>
    rw [List.any_cons, ih]
    have : (deq (nd a) (nd p)) = decide (a = p) := by
      cases q : deq (nd a) (nd p) with
      | true =>
        have := (deq_iff (n := 0) (k := 0) (x := nd a) (y := nd p) rfl rfl).mp q
        simp [nd] at this
        simp
        omega
      | false =>
        have : ¬ a = p := fun e => by
          rw [(deq_iff (n := 0) (k := 0) (x := nd a) (y := nd p) rfl rfl).mpr (by rw [e])] at q
          cases q
        simp [this]
    simp only [Function.comp_apply, this, List.mem_cons]
    by_cases h : a = p
    · simp [h]
    · have h' : ¬ p = a := fun e => h e.symm
      simp [h, h']
theorem plain_row (r : List Nat) : Nr.plain 60 (.tup (ts r)) = true := plain_noB (noB_row r 59)
theorem b_longer {Φ : Phi} {n : Nat} {xs : List D} {L : Hl} {Q : QE} {E : XH} (h : lv 1 c_longer n xs L Q E) : xs.length = 2 ∧ bodyK Φ 5 P.ir_law_longer xs L Q E := by
  obtain ⟨_, rows, many, k, rfl, hr, hk, hmany, hsz, h⟩ := h
  refine ⟨rfl, ?_⟩
  unfold bodyK P.ir_law_longer
  simp [startD]
  refine forR_i (fun j ds L' => ∃ a b : Option D, ds = [some (.lst (rows.map rowD)), some (.int many), some (.obj L.length), a, b] ∧ L' = L ++ [.lst ((longer (rows.take j) many).map rowD)]) _ ⟨none, none, rfl, by simp [longer]⟩ ?_ ?_
  · rintro j x ds L' hx ⟨a, b, rfl, rfl⟩
    refine ⟨trivial, fun M h2 h3 h4 h5 => ?_⟩
    obtain ⟨r, hrj, rfl⟩ : ∃ r, rows[j]? = some r ∧ x = rowD r := by
      rw [List.getElem?_map] at hx
      cases e : rows[j]? with
      | none => rw [e] at hx; cases hx
      | some r => rw [e] at hx; cases hx; exact ⟨r, rfl, rfl⟩
    have hrm := List.mem_of_getElem? hrj
    obtain ⟨r1, r2, r3⟩ := hr r hrm
    simp
    refine ⟨lst_at (by simp; rfl), ⟨smallR_of (by omega) (by omega), smallR_of (by omega) (by omega)⟩, ?_⟩
    rw [rng0]
    refine lcR_t (enc := fun i : Nat => D.int i) (f := fun p => if p ∉ r then some (rowD (r ++ [p])) else none) (List.range many) (show Src.ok (.fixed _) _ from trivial) (by rw [List.length_range, sizeLine_eq]; omega) (fun p hp k2 hk2 => ?_) ?_
    · simp [wipeD]
      show cmpK .notin _ (nd p) (.tup (ts r)) _
      rw [c_notint', has_nd]
      refine ⟨⟨rfl, plain_row r⟩, ?_⟩
      simp
      by_cases hpr : p ∈ r
      · simp [hpr] at hk2 ⊢
        exact hk2
      · simp [hpr] at hk2 ⊢
        exact ⟨by rw [sizeLine_eq]; decide, by rw [sizeLine_eq]; simp [ts, r1]; omega, by rw [show rowD (r ++ [p]) = .tup (ts r ++ [.int p]) from by simp [rowD, ts, nd]] at hk2; exact hk2⟩
    · have ef : (List.range many).filterMap (fun p => if p ∉ r then some (rowD (r ++ [p])) else none) = (((List.range many).filter fun p => decide (p ∉ r)).map fun p => r ++ [p]).map rowD := by
        generalize List.range many = l
        induction l with
        | nil => rfl
        | cons a l ih =>
          rw [List.filterMap_cons, List.filter_cons, ih]
          by_cases h : a ∈ r <;> simp [h]
      rw [ef]
      have hlen : (longer (rows.take (j + 1)) many).length ≤ 1000000 := by
        rw [longer_len (k := k) fun r hr' => hr r (List.mem_of_mem_take hr')]
        refine Nat.le_trans ?_ hsz
        refine Nat.mul_le_mul ?_ (Nat.sub_le _ _)
        rw [List.length_take]
        exact Nat.min_le_right _ _
      have et : longer (rows.take (j + 1)) many = longer (rows.take j) many ++ ((List.range many).filter fun p => decide (p ∉ r)).map fun p => r ++ [p] := by
        rw [List.take_add_one, hrj]
        simp [longer]
      rw [et] at hlen
      refine ⟨_, _, by simp; rfl, rfl, by simp, ?_, ?_⟩
      · simp only [List.length_map, List.length_append] at hlen ⊢
        rw [sizeLine_eq]
        omega
      · refine h2 _ _ ⟨_, _, rfl, ?_⟩
        rw [List.set_append_right _ _ (by simp), et]
        simp
  · rintro ds L' ⟨a, b, rfl, rfl⟩
    refine ⟨trivial, ?_⟩
    simp
    refine fin_froz0 ?_ (Nat.le_refl _) (by simp) h
    rw [nonums_all]
    simp [rowD, nonum, nonums_all, ts, nd]
/-- all rows -/
def c_turnings : Ct := fun xs L Q E => ∃ m : Nat, xs = [.int m] ∧ m ≤ 6 ∧ Q (.lst ((rowsOf m m).map rowD)) L
theorem falls_le : ∀ m, m ≤ 6 → ∀ j, j ≤ 6 → falls m j ≤ 720 := by decide
theorem b_turnings {S : Specs} (h1 : Has S "_law_longer" (lv 1 c_longer)) {n : Nat} {xs : List D} {L : Hl} {Q : QE} {E : XH} (h : lv 2 c_turnings (n + 1) xs L Q E) : xs.length = 1 ∧ bodyK (Ph S n) 3 P.ir_law_turnings xs L Q E := by
  obtain ⟨hn, m, rfl, hm, h⟩ := h
  refine ⟨rfl, ?_⟩
  unfold bodyK P.ir_law_turnings
  simp [startD]
  refine ⟨by rw [sizeLine_eq]; decide, ⟨smallR_of (by omega) (by omega), smallR_of (by omega) (by omega)⟩, ?_⟩
  refine forR_i (fun j ds L' => ∃ a : Option D, ds = [some (.int m), some (.lst ((rowsOf m j).map rowD)), a] ∧ L' = L) _ ⟨none, rfl, rfl⟩ ?_ ?_
  · rintro j x ds L' hx ⟨a, rfl, rfl⟩
    refine ⟨trivial, fun M h2 h3 h4 h5 => ?_⟩
    obtain ⟨hj, rfl⟩ := rngD_get hx
    simp at hj
    simp
    have := falls_le m hm j (by omega)
    have hl := rowsOf_len m j
    refine ph h1 ⟨by omega, rowsOf m j, m, j, rfl, fun r hr => rowsOf_mem.mp hr, by omega, by omega, ?_, ?_⟩
    · rw [hl]
      have := Nat.mul_le_mul this hm
      omega
    · simp
      exact h2 _ _ ⟨_, rfl, rfl⟩
  · rintro ds L' ⟨a, rfl, rfl⟩
    refine ⟨trivial, ?_⟩
    simp [rngD]
    exact fin_same h
/-- what turnings make -/
inductive Made (m : Nat) (gs : List (List Nat)) : List Nat → Prop
  | one : Made m gs (List.range m)
  | mul {g t : List Nat} : g ∈ gs → Made m gs t → Made m gs (aft g t)
theorem Made.tur {m : Nat} {gs : List (List Nat)} (h : ∀ g ∈ gs, Tur m g) {t : List Nat} (ht : Made m gs t) : Tur m t := by
  induction ht with
  | one => exact tur_range m
  | mul hg _ ih => exact tur_after (h _ hg) ih
theorem has_enc0 {α : Type} [DecidableEq α] {enc : α → D} {k : Nat} (hn : ∀ a, noB k (enc a) = true) (hi : ∀ a b, enc a = enc b → a = b) (a : α) (l : List α) : hasD (enc a) (l.map enc) = decide (a ∈ l) := by
  unfold hasD
  rw [List.any_map]
  induction l with
  | nil => simp
  | cons b l ih =>
    rw [List.any_cons, ih]
    have : (deq (enc b) (enc a)) = decide (a = b) := by
      cases q : deq (enc b) (enc a) with
      | true => have := hi _ _ ((deq_iff (hn b) (hn a)).mp q); simp [this]
      | false =>
        have : ¬ a = b := fun e => by
          rw [(deq_iff (hn b) (hn a)).mpr (by rw [e])] at q
          cases q
        simp [this]
    simp only [Function.comp_apply, this, List.mem_cons]
    by_cases h : a = b <;> simp [h]
theorem has_enc {α : Type} [DecidableEq α] {enc : α → D} {k : Nat} (hn : ∀ a, noB k (enc a) = true) (hi : ∀ a b, enc a = enc b → a = b) (a : α) (l : List α) [i : Decidable (a ∈ l)] : hasD (enc a) (l.map enc) = @decide (a ∈ l) i := (has_enc0 hn hi a l).trans (decide_eq_decide.mpr Iff.rfl)
theorem has_row (t : List Nat) (F : List (List Nat)) : hasD (rowD t) (F.map rowD) = decide (t ∈ F) := has_enc (k := 60) (fun a => noB_row a 59) (fun a b e => rowD_inj e) t F
theorem plain_rows (F : List (List Nat)) : Nr.plain 60 (.lst (F.map rowD)) = true := by
  rw [Nr.plain, List.all_eq_true]
  intro x hx
  obtain ⟨t, _, rfl⟩ := List.mem_map.mp hx
  exact plain_noB (noB_row t 58)
theorem aft_assoc {g s t : List Nat} (h : ∀ i ∈ g, i < s.length) : aft (aft g s) t = aft g (aft s t) := by
  unfold aft
  rw [List.map_map]
  refine List.map_congr_left fun i hi => ?_
  simp [h i hi]
theorem aft_one {m : Nat} {t : List Nat} (h : t.length = m) : aft (List.range m) t = t := by
  refine List.ext_getElem? fun j => ?_
  unfold aft
  by_cases hj : j < m
  · simp [hj, h]
  · simp [hj, h]
theorem sub_len {α : Type} [DecidableEq α] : ∀ {l l' : List α}, l.Nodup → (∀ x ∈ l, x ∈ l') → l.length ≤ l'.length
  | [], _, _, _ => Nat.zero_le _
  | a :: l, l', hn, hs => by
    rw [List.nodup_cons] at hn
    have ha := hs a List.mem_cons_self
    have ih := sub_len (l := l) (l' := l'.erase a) hn.2 fun x hx => (List.mem_erase_of_ne (fun e : x = a => hn.1 (by rw [← e]; exact hx))).mpr (hs x (List.mem_cons_of_mem _ hx))
    rw [List.length_erase_of_mem ha] at ih
    have := List.length_pos_of_mem ha
    simp only [List.length_cons]
    omega
/-- a closed list, sorted, is a group -/
theorem grp_of {m : Nat} {gs F : List (List Nat)} (hg : ∀ g ∈ gs, Tur m g) (hn : F.Nodup) (hM : ∀ t ∈ F, Made m gs t) (h1 : List.range m ∈ F) (hc : ∀ t ∈ F, ∀ g ∈ gs, aft g t ∈ F) (hl : F.length ≤ 120) :
    ∃ G, sortD (F.map rowD) = G.map rowD ∧ Grp m G ∧ ∀ t, t ∈ G ↔ Made m gs t := by
  have hall : ∀ t, Made m gs t → t ∈ F := fun t ht => by
    induction ht with
    | one => exact h1
    | mul hgm _ ih => exact hc _ ih _ hgm
  let G := F.mergeSort fun a b => !dlt (rowD b) (rowD a)
  have hp : G.Perm F := List.mergeSort_perm F _
  have hG : sortD (F.map rowD) = G.map rowD := (List.map_mergeSort (f := rowD) (r := fun a b => !dlt (rowD b) (rowD a)) (s := fun a b => !dlt b a) (l := F) (fun a _ b _ => rfl)).symm
  have hnG : G.Nodup := hp.symm.nodup hn
  have hmem : ∀ t, t ∈ G ↔ Made m gs t := fun t => hp.mem_iff.trans ⟨hM t, hall t⟩
  have hs0 := sortD_sorted (F.map rowD)
  rw [hG, List.pairwise_map] at hs0
  have hasc : G.Pairwise fun s t => dlt (rowD s) (rowD t) = true := by
    have := List.pairwise_and_iff.mpr ⟨hs0, hnG⟩
    refine this.imp fun {s t} ⟨h1, h2⟩ => ?_
    cases q : dlt (rowD s) (rowD t) with
    | true => rfl
    | false => exact absurd (rowD_inj (dlt_total (alike_row s t) (noB_row s 59) (noB_row t 59) q h1)) h2
  refine ⟨G, hG, ⟨fun t ht => ((hmem t).mp ht).tur hg, ?_, hasc, fun s hs t ht => ?_, by rw [hp.length_eq]; exact hl⟩, hmem⟩
  · have hm : List.range m ∈ G := hp.mem_iff.mpr h1
    cases e : G with
    | nil => rw [e] at hm; cases hm
    | cons g G' =>
      rw [e] at hm hasc
      rcases List.mem_cons.mp hm with h | h
      · rw [h]; rfl
      · have q := (List.pairwise_cons.mp hasc).1 _ h
        have tg : Tur m g := ((hmem g).mp (by rw [e]; exact List.mem_cons_self)).tur hg
        rw [range_least tg] at q
        cases q
  · have hs := (hmem s).mp hs
    have ht := (hmem t).mp ht
    have tt := ht.tur hg
    rw [hmem]
    clear hc h1
    induction hs with
    | one => rw [aft_one tt.1]; exact ht
    | mul hgm hs' ih =>
      have ts' := hs'.tur hg
      rw [aft_assoc fun i hi => by rw [ts'.1]; exact (hg _ hgm).2.2 i hi]
      exact .mul hgm (ih ((hmem _).mpr hs'))
end Nr

/-! The law's closure, its groups, its kinds. -/
namespace Nr
open PySem PySem.Spec PyProof.Rows L2
def c_closed : Ct := fun xs L Q E => ∃ (m : Nat) (gs : List (List Nat)), xs = [.int m, .lst (gs.map rowD)] ∧ m ≤ 4 ∧ gs.length ≤ 1000 ∧ (∀ g ∈ gs, Tur m g) ∧ ∀ G, Grp m G → (∀ t, t ∈ G ↔ Made m gs t) → Q (gD G) L
/-- what has been found, of which so many are looked at -/
structure Fnd (m : Nat) (gs : List (List Nat)) (k : Nat) (F : List (List Nat)) : Prop where
  nd : F.Nodup
  md : ∀ t ∈ F, Made m gs t
  one : List.range m ∈ F
  cl : ∀ i, i < k → ∀ t, F[i]? = some t → ∀ g ∈ gs, aft g t ∈ F
theorem Fnd.len {m k : Nat} {gs F : List (List Nat)} (h : Fnd m gs k F) (hm : m ≤ 4) (hg : ∀ g ∈ gs, Tur m g) : F.length ≤ 24 := by
  have := sub_len (l' := rowsOf m m) h.nd fun x hx => rowsOf_tur.mpr ((h.md x hx).tur hg)
  rw [rowsOf_len] at this
  have f : ∀ m, m ≤ 4 → falls m m ≤ 24 := by decide
  exact Nat.le_trans this (f m hm)
theorem sortable_rows {m : Nat} {F : List (List Nat)} (h : ∀ t ∈ F, t.length = m) (hn : F.Nodup) (hne : F ≠ []) : sortable (F.map rowD) := by
  refine ⟨(oneK_rows F).alikes, ?_⟩
  cases m with
  | zero =>
    refine .inr (.inr ?_)
    have : ∀ t ∈ F, t = [] := fun t ht => List.eq_nil_of_length_eq_zero (h t ht)
    match F, hne, hn, this with
    | [t], _, _, h => rw [h t (by simp)]; rfl
    | t :: u :: F, _, hn, h =>
      rw [List.nodup_cons] at hn
      exact absurd (by rw [h t (by simp), h u (by simp)]; simp) hn.1
  | succ m =>
    refine .inl ?_
    rw [List.all_map, List.all_eq_true]
    intro t ht
    have := h t ht
    cases t with
    | nil => simp at this
    | cons a t => rfl
theorem b_closed {S : Specs} (h1 : Has S "_law_turned" (lv 1 c_turned_by)) {n : Nat} {xs : List D} {L : Hl} {Q : QE} {E : XH} (h : lv 2 c_closed (n + 1) xs L Q E) : xs.length = 2 ∧ bodyK (Ph S n) 6 P.ir_law_closed xs L Q E := by
  obtain ⟨hn, m, gs, rfl, hm, hgl, hg, h⟩ := h
  refine ⟨rfl, ?_⟩
  unfold bodyK
  obtain ⟨R, hR⟩ : ∃ R, dropS 2 P.ir_law_closed = R := ⟨_, rfl⟩
  refine seg 2 hR ?_
  have en : ∀ F : List (List Nat), (L ++ [O.lst (F.map rowD)])[L.length]? = some (.lst (F.map rowD)) := fun F => by simp
  -- the end
  have fin : ∀ (F : List (List Nat)) (a b c : Option D), Fnd m gs F.length F → semSs (Ph S n) R (FinX L E) { nx := fun _ L' => Nr.Fin L Q D.non L', rt := Nr.Fin L Q } [some (.int m), some (.lst (gs.map rowD)), some (.obj L.length), a, b, c] (L ++ [O.lst (F.map rowD)]) := by
    intro F a b c hF
    subst hR
    simp [dropS, P.ir_law_closed]
    rw [sd_obj (en F)]
    have hl := hF.len hm hg
    have hne : F ≠ [] := fun e => by have := hF.one; rw [e] at this; cases this
    refine ⟨⟨sortable_rows (m := m) (fun t ht => ((hF.md t ht).tur hg).1) hF.nd hne, by rw [List.length_map, sizeLine_eq]; omega⟩, ?_⟩
    obtain ⟨G, e1, e2, e3⟩ := grp_of hg hF.nd hF.md hF.one (fun t ht g hgm => by
      obtain ⟨i, hi, e⟩ := List.getElem_of_mem ht
      exact hF.cl i hi t (by rw [List.getElem?_eq_getElem hi, e]) g hgm) (by omega)
    rw [e1]
    refine fin_cut0 ?_ (h G e2 e3)
    rw [nonum, nonums_all]
    simp [rowD, nonum, nonums_all, ts, nd]
  simp [startD, takeS, P.ir_law_closed]
  refine ⟨by unfold RgOk; simp; omega, by rw [sizeLine_eq]; decide, ⟨smallR_of (by omega) (by omega), smallR_of (by omega) (by omega)⟩, ?_⟩
  refine forR_i (fun k ds L' => ∃ (F : List (List Nat)) (a b c : Option D), Fnd m gs k F ∧ k ≤ F.length ∧ ds = [some (.int m), some (.lst (gs.map rowD)), some (.obj L.length), a, b, c] ∧ L' = L ++ [.lst (F.map rowD)]) _ ⟨[List.range m], none, none, none, ⟨by simp, by simp; exact .one, by simp, fun i hi => absurd hi (Nat.not_lt_zero _)⟩, Nat.zero_le _, rfl, by rw [rng0]; rfl⟩ ?_ ?_
  · rintro k x ds L' hx ⟨F, a, b, c, hF, hk, rfl, rfl⟩
    refine ⟨trivial, fun M h2 h3 h4 h5 => ?_⟩
    obtain ⟨hk7, rfl⟩ := rngD_get hx
    simp
    rw [ln_obj (en F)]
    simp
    by_cases hlt : F.length ≤ k
    · rw [if_pos hlt, h5]
      have : k = F.length := by omega
      subst this
      exact fin F _ _ _ hF
    · rw [if_neg hlt]
      obtain ⟨t0, ht0⟩ : ∃ t, F[k]? = some t := ⟨F[k], List.getElem?_eq_getElem (by omega)⟩
      have tt0 := (hF.md t0 (List.mem_of_getElem? ht0)).tur hg
      refine forR_i (fun j ds L' => ∃ (F' : List (List Nat)) (b c : Option D), Fnd m gs k F' ∧ k < F'.length ∧ F'[k]? = some t0 ∧ (∀ g ∈ gs.take j, aft g t0 ∈ F') ∧ ds = [some (.int m), some (.lst (gs.map rowD)), some (.obj L.length), some (.int k), b, c] ∧ L' = L ++ [.lst (F'.map rowD)]) _ ⟨F, b, c, hF, by omega, ht0, by simp, rfl, rfl⟩ ?_ ?_
      · rintro j x ds L' hx ⟨F', b, c, hF', hk', ht0', hcl, rfl, rfl⟩
        refine ⟨trivial, fun M' g2 g3 g4 g5 => ?_⟩
        obtain ⟨g, hgj, rfl⟩ : ∃ g, gs[j]? = some g ∧ x = rowD g := by
          rw [List.getElem?_map] at hx
          cases e : gs[j]? with
          | none => rw [e] at hx; cases hx
          | some r => rw [e] at hx; cases hx; exact ⟨r, rfl, rfl⟩
        have hgm := List.mem_of_getElem? hgj
        have tg := hg g hgm
        have hb : ∀ i ∈ g, i < t0.length := fun i hi => by rw [tt0.1]; exact tg.2.2 i hi
        simp
        rw [ix_obj (en F')]
        refine ⟨rowD t0, by rw [atN, List.getElem?_map, ht0']; rfl, ?_⟩
        refine ph h1 ⟨by omega, g, ts t0, rfl, fun i hi => by simpa [ts] using hb i hi, by rw [tg.1, sizeLine_eq]; omega, ?_⟩
        rw [tb_of hb]
        show cmpK .notin _ (rowD (aft g t0)) (.obj L.length) _
        rw [c_notinlo (en F'), has_row]
        refine ⟨⟨plain_noB (noB_row _ 59), plain_rows F'⟩, ?_⟩
        have hl' := hF'.len hm hg
        by_cases hin : aft g t0 ∈ F'
        · simp [hin]
          refine g2 _ _ ⟨F', _, _, hF', hk', ht0', fun g' hg' => ?_, rfl, rfl⟩
          rw [List.take_add_one, hgj] at hg'
          rcases List.mem_append.mp hg' with q | q
          · exact hcl g' q
          · simp at q; subst q; exact hin
        · simp [hin]
          refine ⟨lst_at (en F'), F'.map rowD, en F', by rw [List.length_map, sizeLine_eq]; omega, ?_⟩
          refine g2 _ _ ⟨F' ++ [aft g t0], _, _, ⟨?_, ?_, List.mem_append_left _ hF'.one, ?_⟩, by simp; omega, by rw [List.getElem?_append_left hk']; exact ht0', ?_, rfl, ?_⟩
          · rw [List.nodup_append]
            exact ⟨hF'.nd, by simp, fun x hx y hy e => by simp at hy; subst hy; subst e; exact hin hx⟩
          · intro t ht
            rcases List.mem_append.mp ht with q | q
            · exact hF'.md t q
            · simp at q; subst q; exact .mul hgm (hF'.md t0 (List.mem_of_getElem? ht0'))
          · intro i hi t ht g' hg'
            rw [List.getElem?_append_left (by omega)] at ht
            exact List.mem_append_left _ (hF'.cl i hi t ht g' hg')
          · intro g' hg'
            rw [List.take_add_one, hgj] at hg'
            rcases List.mem_append.mp hg' with q | q
            · exact List.mem_append_left _ (hcl g' q)
            · simp at q; subst q; exact List.mem_append_right _ (by simp)
          · rw [List.set_append_right _ _ (by simp)]
            simp
            rfl
      · rintro ds L' ⟨F', b, c, hF', hk', ht0', hcl, rfl, rfl⟩
        refine ⟨trivial, h2 _ _ ⟨F', _, _, _, ⟨hF'.nd, hF'.md, hF'.one, fun i hi t ht g hgm => ?_⟩, by omega, rfl, rfl⟩⟩
        by_cases e : i = k
        · subst e
          rw [ht0'] at ht
          cases ht
          refine hcl g ?_
          simpa using hgm
        · exact hF'.cl i (by omega) t ht g hgm
  · rintro ds L' ⟨F, a, b, c, hF, hk, rfl, rfl⟩
    exfalso
    have := hF.len hm hg
    simp [rngD] at hk
    omega
end Nr

/-! Drawn groups, drawn kinds. -/
namespace Nr
open PySem PySem.Spec PyProof.Rows L2
def c_lgroup : Ct := fun xs L Q E => ∃ (i m : Nat) (B : Int), xs = [.obj i, .int m] ∧ feedAt L i B ∧ B ≤ 10000000 ∧ m ≤ 4 ∧ ∀ G o', Grp m G → Fd (B + 3) o' → Q (gD G) (L.set i o')
theorem rowsOf_ne {m : Nat} : rowsOf m m ≠ [] := fun h => by
  have := rowsOf_tur.mpr (tur_range m)
  rw [h] at this
  cases this
theorem b_lgroup {S : Specs} (h1 : Has S "_law_turnings" (lv 2 c_turnings)) (h2 : Has S "_law_one" (lv 2 c_one)) (h3 : Has S "_law_closed" (lv 2 c_closed)) {n : Nat} {xs : List D} {L : Hl} {Q : QE} {E : XH} (h : lv 3 c_lgroup (n + 1) xs L Q E) : xs.length = 2 ∧ bodyK (Ph S n) 4 P.ir_law_group xs L Q E := by
  obtain ⟨hn, i, m, B, rfl, hf, hB, hm, h⟩ := h
  refine ⟨rfl, ?_⟩
  unfold bodyK P.ir_law_group
  simp [startD]
  refine ph h1 ⟨by omega, m, rfl, by omega, ?_⟩
  simp
  refine ⟨by rw [sizeLine_eq]; decide, ph h2 ⟨by omega, i, B, _, _, rfl, hf, .inl rfl, ⟨by simp, by simp⟩, fun x hx o1 hF1 => ?_⟩⟩
  obtain ⟨c, hc, rfl⟩ : ∃ c : Nat, c ≤ 2 ∧ x = .int c := by
    simp only [List.mem_cons, List.not_mem_nil, or_false] at hx
    rcases hx with rfl | rfl | rfl | rfl | rfl
    · exact ⟨0, by omega, rfl⟩
    · exact ⟨0, by omega, rfl⟩
    · exact ⟨1, by omega, rfl⟩
    · exact ⟨1, by omega, rfl⟩
    · exact ⟨2, by omega, rfl⟩
  simp
  have f1 : feedAt (L.set i o1) i (B + 1) := feed_set hf hF1 (by omega)
  refine ⟨⟨smallR_of (by omega) (by omega), smallR_of (by omega) (by omega)⟩, ?_⟩
  refine lcR_i (fun k acc L' => ∃ (o : O) (gs : List (List Nat)), Fd (B + 1 + k) o ∧ L' = L.set i o ∧ acc = gs.map rowD ∧ gs.length = k ∧ ∀ g ∈ gs, Tur m g) _ ⟨o1, [], by simpa using hF1, rfl, rfl, rfl, by simp⟩ ?_ ?_
  · rintro k x acc L' hx ⟨o, gs, hF, rfl, rfl, hl, hg⟩
    obtain ⟨hk, rfl⟩ := rngD_get hx
    simp at hk
    refine ⟨trivial, by rw [List.length_map, sizeLine_eq]; omega, fun kk k1 k2 => ?_⟩
    simp [wipeD]
    have fk : feedAt (L.set i o) i (B + 1 + k) := feed_set hf hF (by omega)
    refine ph h2 ⟨by omega, i, _, _, _, rfl, fk, .inl rfl, ⟨by simpa using rowsOf_ne, by rw [List.length_map, rowsOf_len]; have := falls_le m (by omega) m (by omega); omega⟩, fun x hx o' hF' => ?_⟩
    obtain ⟨t, ht, rfl⟩ := List.mem_map.mp hx
    rw [List.set_set]
    refine k1 _ _ ⟨o', gs ++ [t], ?_, rfl, by simp, by simp [hl], fun g hg' => ?_⟩
    · rw [show B + 1 + ((k + 1 : Nat) : Int) = B + 1 + k + 1 by omega]
      exact hF'
    · rcases List.mem_append.mp hg' with q | q
      · exact hg g q
      · simp at q; subst q; exact rowsOf_tur.mp ht
  · rintro acc L' ⟨o, gs, hF, rfl, rfl, hl, hg⟩
    refine ⟨trivial, ?_⟩
    have hlen : (rngD 0 (c : Int)).length = c := by simp [rngD]
    rw [hlen] at hF hl
    refine ph h3 ⟨by omega, m, gs, rfl, hm, by omega, hg, fun G hG _ => fin_same (h G o hG (hF.mono (by omega)))⟩
def c_lkinds : Ct := fun xs L Q E => ∃ (i c mo le : Nat) (B : Int), xs = [.obj i, .int c, .int mo, .int le] ∧ feedAt L i B ∧ B ≤ 9000000 ∧ c ≤ 300 ∧ le ≤ mo ∧ mo ≤ 4 ∧
  ∀ (T : List Kd) (o' : O), SOk T → T.length = c → (∀ k ∈ T, le ≤ k.1 ∧ k.1 ≤ mo) → Fd (B + 4 * c) o' → Q (sD T) (L.set i o')
theorem nonum_gD (G : List (List Nat)) : nonum (gD G) = true := by
  show nonum (.tup (G.map rowD)) = true
  rw [nonum, nonums_all]
  simp [rowD, nonum, nonums_all, ts, nd]
theorem nonum_kD (k : Kd) : nonum (kD k) = true := by
  show nonum (.tup [.int k.1, gD k.2]) = true
  rw [nonum, nonums_all]
  simp [nonum_gD, nonum]
theorem nonum_sD (T : List Kd) : nonum (sD T) = true := by
  show nonum (.tup (T.map kD)) = true
  rw [nonum, nonums_all]
  simp [nonum_kD]
theorem b_lkinds {S : Specs} (h1 : Has S "_law_draw" (lv 1 c_draw)) (h2 : Has S "_law_group" (lv 3 c_lgroup)) {n : Nat} {xs : List D} {L : Hl} {Q : QE} {E : XH} (h : lv 4 c_lkinds (n + 1) xs L Q E) : xs.length = 4 ∧ bodyK (Ph S n) 7 P.ir_law_kinds xs L Q E := by
  obtain ⟨hn, i, c, mo, le, B, rfl, hf, hB, hc, hlm, hm4, h⟩ := h
  refine ⟨rfl, ?_⟩
  have hi := feed_lt hf
  obtain ⟨o0, ho0, hF0, _⟩ := id hf
  unfold bodyK P.ir_law_kinds
  simp [startD]
  refine ⟨⟨smallR_of (by omega) (by omega), smallR_of (by omega) (by omega)⟩, ?_⟩
  refine forR_i (fun k ds L' => ∃ (o : O) (T : List Kd) (a b : Option D), Fd (B + 4 * k) o ∧ T.length = k ∧ (∀ k ∈ T, KOk k ∧ le ≤ k.1 ∧ k.1 ≤ mo) ∧ ds = [some (.obj i), some (.int c), some (.int mo), some (.int le), some (.obj L.length), a, b] ∧ L' = L.set i o ++ [.lst (T.map kD)]) _ ⟨o0, [], none, none, by simpa using hF0, rfl, by simp, rfl, ?_⟩ ?_ ?_
  · have : L.set i o0 = L := by
      refine List.ext_getElem? fun j => ?_
      by_cases hj : i = j
      · subst hj
        rw [List.getElem?_set_self hi, ho0]
      · rw [List.getElem?_set_ne hj]
    rw [this]
    rfl
  · rintro k x ds L' hx ⟨o, T, a, b, hF, hl, hT, rfl, rfl⟩
    refine ⟨trivial, fun M g2 g3 g4 g5 => ?_⟩
    obtain ⟨hk, rfl⟩ := rngD_get hx
    simp at hk
    have fk : feedAt (L.set i o ++ [.lst (T.map kD)]) i (B + 4 * k) := feed_app ⟨o, get_set ho0, hF, by omega⟩
    have en : ∀ o, (L.set i o ++ [O.lst (T.map kD)])[L.length]? = some (.lst (T.map kD)) := fun o => by simp
    have es : ∀ o o' (r : O), (L.set i o ++ [r]).set i o' = L.set i o' ++ [r] := fun o o' r => by
      rw [List.set_append_left _ _ (by simpa using hi), List.set_set]
    simp
    refine ph h1 ⟨by omega, i, _, _, rfl, fk, ⟨by omega, by omega⟩, fun r o1 r0 r1 hF1 => ?_⟩
    rw [es]
    obtain ⟨j, rfl⟩ : ∃ j : Nat, r = j := ⟨r.toNat, by omega⟩
    simp
    refine ⟨lst_at (en o1), ?_⟩
    have f1 : feedAt (L.set i o1 ++ [.lst (T.map kD)]) i (B + 4 * k + 1) := feed_app ⟨o1, get_set ho0, hF1, by omega⟩
    refine ph h2 ⟨by omega, i, le + j, _, by simp, f1, by omega, by omega, fun G o2 hG hF2 => ?_⟩
    rw [es]
    refine ⟨by rw [sizeLine_eq]; decide, T.map kD, en o2, by rw [List.length_map, sizeLine_eq]; omega, ?_⟩
    refine g2 _ _ ⟨o2, T ++ [(le + j, G)], _, _, ?_, by simp [hl], fun k' hk' => ?_, rfl, ?_⟩
    · rw [show B + 4 * ((k + 1 : Nat) : Int) = B + 4 * k + 1 + 3 by omega]
      exact hF2
    · rcases List.mem_append.mp hk' with q | q
      · exact hT k' q
      · simp at q
        subst q
        exact ⟨⟨by show le + j ≤ 6; omega, hG⟩, by show le ≤ le + j; omega, by show le + j ≤ mo; omega⟩
    · rw [List.set_append_right _ _ (by simp)]
      simp [kD]
  · rintro ds L' ⟨o, T, a, b, hF, hl, hT, rfl, rfl⟩
    refine ⟨trivial, ?_⟩
    have hlen : (rngD 0 (c : Int)).length = c := by simp [rngD]
    rw [hlen] at hF hl
    simp
    rw [sq_obj (by simp; rfl)]
    exact fin_cut (nonum_sD T) hF.nonum (h T o ⟨by omega, fun k hk => (hT k hk).1⟩ hl (fun k hk => (hT k hk).2) hF)
end Nr

/-! Least rows, things, counts. -/
namespace Nr
open PySem PySem.Spec PyProof.Rows L2
def rowI (r : List Int) : D := .tup (r.map .int)
theorem rowI_inj {r s : List Int} (h : rowI r = rowI s) : r = s := (List.map_inj_right (f := D.int) fun a b e => by simpa using e).mp (by simpa [rowI] using h)
theorem rowD_I (t : List Nat) : rowD t = rowI (t.map fun n : Nat => (n : Int)) := by
  unfold rowD rowI ts
  rw [List.map_map]
  rfl
theorem alike_ints : ∀ s t : List Int, W.alikeAll (toP.toPs (s.map .int)) (toP.toPs (t.map .int)) = true := by
  intro s
  induction s with
  | nil => intro t; rfl
  | cons a s ih =>
    intro t
    cases t with
    | nil => rfl
    | cons b t =>
      show W.alikeAll (toP (.int a) :: toP.toPs (s.map .int)) (toP (.int b) :: toP.toPs (t.map .int)) = true
      rw [W.alikeAll, ih]
      rfl
theorem alike_rowI (s t : List Int) : alikeD (rowI s) (rowI t) = true := by
  show W.alike (.tuple _) (.tuple _) = true
  rw [W.alike]
  exact alike_ints s t
theorem noB_rowI (s : List Int) (n : Nat) : noB (n + 1) (rowI s) = true := by
  show noB (n + 1) (.tup (s.map .int)) = true
  rw [noB, noBs_all]
  simp
  intro _ _
  cases n <;> rfl
theorem oneK_rowsI (G : List (List Int)) : OneK (G.map rowI) := fun x hx => by
  obtain ⟨s, _, rfl⟩ := List.mem_map.mp hx
  refine ⟨noB_rowI s 59, fun y hy => ?_⟩
  obtain ⟨t, _, rfl⟩ := List.mem_map.mp hy
  exact alike_rowI s t
theorem dlt_totI {s t : List Int} (h : dlt (rowI s) (rowI t) = false) (g : dlt (rowI t) (rowI s) = false) : s = t := rowI_inj (dlt_total (alike_rowI s t) (noB_rowI s 59) (noB_rowI t 59) h g)
/-- a row, turned -/
def trn (t : List Nat) (r : List Int) : List Int := t.map fun i => r.getD i 0
theorem tb_I {t : List Nat} {r : List Int} (h : ∀ i ∈ t, i < r.length) : tb t (r.map .int) = (trn t r).map .int := tb_int h
def lessF (a z : List Int) : List Int := if dlt (rowI z) (rowI a) = true then z else a
/-- the least row that a group makes -/
def leastR (G : List (List Nat)) (r : List Int) : List Int := match G.map fun t => trn t r with
  | [] => r
  | x :: xs => xs.foldl lessF x
theorem leastD_rows : ∀ (xs : List (List Int)) (x : List Int), leastD (rowI x) (xs.map rowI) = rowI (xs.foldl lessF x)
  | [], x => rfl
  | y :: xs, x => by
    have e : leastD (rowI x) (List.map rowI (y :: xs)) = leastD (if dlt (rowI y) (rowI x) = true then rowI y else rowI x) (xs.map rowI) := rfl
    rw [e, List.foldl_cons]
    unfold lessF
    by_cases h : dlt (rowI y) (rowI x) = true
    · rw [if_pos h, if_pos h]
      exact leastD_rows xs y
    · rw [if_neg h, if_neg h]
      exact leastD_rows xs x
theorem leastR_spec {G : List (List Nat)} {r : List Int} (hG : G ≠ []) : (∃ t ∈ G, leastR G r = trn t r) ∧ ∀ t ∈ G, dlt (rowI (trn t r)) (rowI (leastR G r)) = false := by
  cases G with
  | nil => exact absurd rfl hG
  | cons g G =>
    have e : leastR (g :: G) r = (G.map fun t => trn t r).foldl lessF (trn g r) := rfl
    obtain ⟨h1, h2⟩ := leastD_spec ((G.map fun t => trn t r).map rowI) (rowI (trn g r))
    rw [leastD_rows, ← e] at h1 h2
    have hm : ∀ t ∈ g :: G, rowI (trn t r) ∈ rowI (trn g r) :: (G.map fun t => trn t r).map rowI := fun t ht => by
      rcases List.mem_cons.mp ht with rfl | ht
      · exact List.mem_cons_self
      · exact List.mem_cons_of_mem _ (List.mem_map.mpr ⟨_, List.mem_map.mpr ⟨t, ht, rfl⟩, rfl⟩)
    refine ⟨?_, fun t ht => h2 _ (hm t ht)⟩
    rcases List.mem_cons.mp h1 with h | h
    · exact ⟨g, List.mem_cons_self, rowI_inj h⟩
    · obtain ⟨x, hx, e1⟩ := List.mem_map.mp h
      obtain ⟨t, ht, rfl⟩ := List.mem_map.mp hx
      exact ⟨t, List.mem_cons_of_mem _ ht, (rowI_inj e1).symm⟩
theorem leastR_uniq {G : List (List Nat)} {r z : List Int} (hz : ∃ t ∈ G, z = trn t r) (hl : ∀ t ∈ G, dlt (rowI (trn t r)) (rowI z) = false) : leastR G r = z := by
  obtain ⟨t, ht, rfl⟩ := hz
  obtain ⟨⟨s, hs, e⟩, h2⟩ := leastR_spec (r := r) (List.ne_nil_of_mem ht)
  rw [e]
  rw [e] at h2
  exact dlt_totI (hl s hs) (h2 t ht)
theorem trn_len (t : List Nat) (r : List Int) : (trn t r).length = t.length := by simp [trn]
theorem leastR_len {m : Nat} {G : List (List Nat)} {r : List Int} (h : Grp m G) : (leastR G r).length = m := by
  obtain ⟨⟨s, hs, e⟩, _⟩ := leastR_spec (r := r) (show G ≠ [] from fun z => by have := h.ne; rw [z] at this; simp at this)
  rw [e, trn_len, (h.tur s hs).1]
def c_least_row : Ct := fun xs L Q E => ∃ (m : Nat) (G : List (List Nat)) (r : List Int), xs = [gD G, rowI r] ∧ m ≤ 6 ∧ Grp m G ∧ r.length = m ∧ Q (rowI (leastR G r)) L
theorem b_least_row {S : Specs} (h1 : Has S "turned_by" (lv 1 c_turned_by)) {n : Nat} {xs : List D} {L : Hl} {Q : QE} {E : XH} (h : lv 2 c_least_row (n + 1) xs L Q E) : xs.length = 2 ∧ bodyK (Ph S n) 3 P.irleast_row xs L Q E := by
  obtain ⟨hn, m, G, r, rfl, hm, hG, hr, h⟩ := h
  refine ⟨rfl, ?_⟩
  unfold bodyK P.irleast_row
  simp [startD]
  show srcK _ (.tup (G.map rowD)) _
  rw [sr_tup]
  have hlen := hG.len
  refine lcR_m (enc := rowD) (f := fun t => rowI (trn t r)) G (show Src.ok (.fixed _) _ from trivial) (by rw [sizeLine_eq]; omega) (fun t ht k hk => ?_) ?_
  · simp [wipeD]
    have ht' := hG.tur t ht
    have hb : ∀ i ∈ t, i < r.length := fun i hi => by rw [hr]; exact ht'.2.2 i hi
    refine ph h1 ⟨by omega, t, r.map .int, rfl, fun i hi => by simpa using hb i hi, by rw [ht'.1, sizeLine_eq]; omega, ?_⟩
    rw [tb_I hb]
    exact hk
  · obtain ⟨g, G', rfl⟩ : ∃ g G', G = g :: G' := by
      have := hG.ne
      cases G with
      | nil => simp at this
      | cons g G' => exact ⟨g, G', rfl⟩
    rw [List.map_cons, bi_min1]
    have e : (rowI (trn g r) :: G'.map fun t => rowI (trn t r)) = ((g :: G').map fun t => trn t r).map rowI := by simp
    refine ⟨⟨?_, ?_⟩, ?_⟩
    · rw [e]; exact (oneK_rowsI _).alikes
    · rw [e, List.all_map]
      simp [rowI]
    · rw [show (G'.map fun t => rowI (trn t r)) = (G'.map fun t => trn t r).map rowI by simp, leastD_rows]
      exact fin_same h
/-- a thing -/
def thD (i : Nat) (r : List Int) : D := .tup [.int i, rowI r]
theorem kind_at {T : List Kd} {i : Nat} {k : Kd} (h : T[i]? = some k) : (T.map kD)[i]? = some (kD k) := by rw [List.getElem?_map, h]; rfl
def c_told : Ct := fun xs L Q E => ∃ (T : List Kd) (i : Nat) (k : Kd) (r : List Int), xs = [sD T, .int i, rowI r] ∧ T[i]? = some k ∧ KOk k ∧ r.length = k.1 ∧ Q (thD i (leastR k.2 r)) L
theorem b_told {S : Specs} (h1 : Has S "least_row" (lv 2 c_least_row)) {n : Nat} {xs : List D} {L : Hl} {Q : QE} {E : XH} (h : lv 3 c_told (n + 1) xs L Q E) : xs.length = 3 ∧ bodyK (Ph S n) 3 P.irtold xs L Q E := by
  obtain ⟨hn, T, i, k, r, rfl, hk, hok, hr, h⟩ := h
  refine ⟨rfl, ?_⟩
  unfold bodyK P.irtold
  simp [startD]
  show idxK _ (.tup (T.map kD)) _ _
  rw [ix_tup]
  refine ⟨kD k, by rw [atN]; exact kind_at hk, ?_⟩
  show idxK _ (.tup [.int k.1, gD k.2]) _ _
  simp
  refine ph h1 ⟨by omega, k.1, k.2, r, rfl, hok.1, hok.2, hr, ?_⟩
  exact ⟨by rw [sizeLine_eq]; decide, fin_same h⟩
/-- rows of names -/
def Nms (m : Nat) (r : List Int) : Prop := r.length = m ∧ r.Nodup ∧ ∀ x ∈ r, 0 ≤ x ∧ x ≤ 999999
theorem filterMap_ints (r : List Int) : (r.map D.int).filterMap intV = r := by
  induction r with
  | nil => rfl
  | cons a r ih => simp [intV, ih]
theorem rowU_I {a b : Int} {r : List Int} : rowU a b (rowI r) = true ↔ r.Nodup ∧ ∀ x ∈ r, a ≤ x ∧ x ≤ b := by
  show rowU a b (.tup (r.map .int)) = true ↔ _
  simp only [rowU, filterMap_ints, Bool.and_eq_true, decide_eq_true_eq, List.all_map, List.all_eq_true, Function.comp_apply, isI]
  exact and_comm
theorem okR_rowI {r : List Int} (h : r.length ≤ 1000) : okR (rowI r) = true := by
  show okR (.tup (r.map .int)) = true
  simp [okR, ty]
  rw [sizeLine_eq]
  omega
/-- a right index, right names -/
def c_thing_of : Ct := fun xs L Q E => ∃ (T : List Kd) (i : Nat) (k : Kd) (r : List Int), xs = [sD T, .int i, rowI r] ∧ SOk T ∧ T[i]? = some k ∧ Nms k.1 r ∧ Q (thD i (leastR k.2 r)) L
def c_need_index : Ct := fun xs L Q E => ∃ (T : List Kd) (x : D), xs = [sD T, x] ∧ T.length ≤ 1000 ∧ ty x = true ∧ (isI 0 (T.length - 1) x = true → Q .non L) ∧ (isI 0 (T.length - 1) x = false → E "BadIndex" L)
theorem b_need_index {S : Specs} (h1 : Has S "is_integer" (lv 1 c_is_integer)) {n : Nat} {xs : List D} {L : Hl} {Q : QE} {E : XH} (h : lv 2 c_need_index (n + 1) xs L Q E) : xs.length = 2 ∧ bodyK (Ph S n) 2 P.irneed_index xs L Q E := by
  obtain ⟨hn, T, x, rfl, hl, hx, h2, h3⟩ := h
  refine ⟨rfl, ?_⟩
  unfold bodyK P.irneed_index
  simp [startD]
  show lenK _ (.tup (T.map kD)) _
  rw [ln_tup]
  simp
  refine ph h1 ⟨by omega, x, _, _, rfl, hx, ?_⟩
  simp
  cases e : isI 0 (T.length - 1) x with
  | true => simp only [Bool.false_eq_true, reduceIte]; exact fin_same (h2 e)
  | false => simp only [Bool.false_eq_true, reduceIte]; exact finX_same (ds := []) (h3 e)
theorem b_thing_of {S : Specs} (h1 : Has S "need_set" (lv 7 c_need_set)) (h2 : Has S "need_index" (lv 2 c_need_index)) (h3 : Has S "is_row_unlike" (lv 2 c_is_row_unlike)) (h4 : Has S "told" (lv 3 c_told)) {n : Nat} {xs : List D} {L : Hl} {Q : QE} {E : XH} (h : lv 8 c_thing_of (n + 1) xs L Q E) : xs.length = 3 ∧ bodyK (Ph S n) 3 P.irthing_of xs L Q E := by
  obtain ⟨hn, T, i, k, r, rfl, hT, hk, hr, h⟩ := h
  refine ⟨rfl, ?_⟩
  have hi : i < T.length := (List.getElem?_eq_some_iff.mp hk).1
  have hok := hT.2 k (List.mem_of_getElem? hk)
  unfold bodyK P.irthing_of
  simp [startD]
  refine use_set h1 (by omega) hT ?_
  have hI : isI 0 (T.length - 1) (.int i) = true := by simp [isI]; omega
  refine ph h2 ⟨by omega, T, .int i, rfl, by have := hT.1; omega, rfl, fun _ => ?_, fun z => (by rw [hI] at z; cases z)⟩
  try dsimp only
  refine ph h3 ⟨by omega, rowI r, 0, 999999, rfl, okR_rowI (by rw [hr.1]; have := hok.1; omega), ?_⟩
  rw [rowU_I.mpr ⟨hr.2.1, hr.2.2⟩]
  simp
  show lenK _ (.tup (r.map .int)) _
  rw [ln_tup]
  show idxK _ (.tup (T.map kD)) _ _
  rw [ix_tup]
  refine ⟨kD k, by rw [atN]; exact kind_at hk, ?_⟩
  show idxK _ (.tup [.int k.1, gD k.2]) _ _
  simp [hr.1]
  exact ph h4 ⟨by omega, T, i, k, r, rfl, hk, hok, hr.1, fin_same h⟩
end Nr

/-! Counts; sets beside one another; parts. -/
namespace Nr
open PySem PySem.Spec PyProof.Rows L2
/-- the product of what is left at each place -/
def pbelow (many : Int) : Nat → Int
  | 0 => 1
  | k + 1 => pbelow many k * max 0 (many - k)
theorem pbelow_bounds {many : Int} (h0 : 0 ≤ many) (h1 : many < 2 ^ 20) : ∀ k : Nat, 0 ≤ pbelow many k ∧ pbelow many k ≤ 2 ^ (20 * k)
  | 0 => by simp [pbelow]
  | k + 1 => by
    obtain ⟨a1, a2⟩ := pbelow_bounds h0 h1 k
    have b1 : 0 ≤ max 0 (many - k) := Int.le_max_left _ _
    have b2 : max 0 (many - k) ≤ 2 ^ 20 := by
      have := Int.max_le.mpr ⟨(by decide : (0 : Int) ≤ 2 ^ 20), (by omega : many - k ≤ 2 ^ 20)⟩
      exact this
    refine ⟨Int.mul_nonneg a1 b1, ?_⟩
    have := Int.mul_le_mul a2 b2 b1 (by exact Int.pow_nonneg (by decide))
    rw [show 20 * (k + 1) = 20 * k + 20 by omega, Int.pow_add]
    exact this
/-- how many things of a kind there are, as told -/
def kBelow (k : Kd) (many : Int) : Int := pbelow many k.1 / k.2.length
def c_things_below : Ct := fun xs L Q E => ∃ (k : Kd) (many : Int), xs = [kD k, .int many] ∧ KOk k ∧ 0 ≤ many ∧ many ≤ 999999 ∧ Q (.int (kBelow k many)) L
theorem max_if (a : Int) : (if a > 0 then a else 0) = max 0 a := by
  by_cases h : a > 0
  · rw [if_pos h, Int.max_eq_right (by omega)]
  · rw [if_neg h, Int.max_eq_left (by omega)]
theorem b_things_below {Φ : Phi} {n : Nat} {xs : List D} {L : Hl} {Q : QE} {E : XH} (h : lv 1 c_things_below n xs L Q E) : xs.length = 2 ∧ bodyK Φ 4 P.irthings_below xs L Q E := by
  obtain ⟨hn, k, many, rfl, hk, h0, h1, h⟩ := h
  refine ⟨rfl, ?_⟩
  have hk6 := hk.1
  unfold bodyK P.irthings_below
  simp [startD]
  show idxK _ (.tup [.int k.1, gD k.2]) _ _
  simp
  refine ⟨⟨smallR_of (by omega) (by omega), smallR_of (by omega) (by omega)⟩, ?_⟩
  refine forR_i (fun j ds L' => ∃ a : Option D, ds = [some (kD k), some (.int many), some (.int (pbelow many j)), a] ∧ L' = L) _ ⟨none, rfl, rfl⟩ ?_ ?_
  · rintro j x ds L' hx ⟨a, rfl, rfl⟩
    refine ⟨trivial, fun M h2 h3 h4 h5 => ?_⟩
    obtain ⟨hj, rfl⟩ := rngD_get hx
    simp at hj
    simp
    obtain ⟨a1, a2⟩ := pbelow_bounds h0 (by omega) j
    refine ⟨mul_smallR ?_ ?_, h2 _ _ ⟨some (.int j), ?_, rfl⟩⟩
    · split <;> omega
    · split <;> omega
    · have := max_if (many - j)
      simp only [pbelow]
      rw [← this]
      simp
  · rintro ds L' ⟨a, rfl, rfl⟩
    refine ⟨trivial, ?_⟩
    have hl : (rngD 0 (k.1 : Int)).length = k.1 := by simp [rngD]
    rw [hl]
    simp
    show idxK _ (.tup [.int k.1, gD k.2]) _ _
    simp
    show lenK _ (.tup (k.2.map rowD)) _
    rw [ln_tup]
    simp
    have hne := hk.2.ne
    have hle := hk.2.len
    refine ⟨div_okm (by omega) (Int.lt_of_le_of_lt (show (k.2.length : Int) ≤ 120 by omega) (by decide)), fin_same h⟩
def c_counted : Ct := fun xs L Q E => ∃ (T : List Kd) (many : Int), xs = [sD T, .int many] ∧ SOk T ∧ 0 ≤ many ∧ many ≤ 999999 ∧ Q (.int (T.map fun k => kBelow k many).sum) L
theorem b_counted {S : Specs} (h1 : Has S "need_set" (lv 7 c_need_set)) (h2 : Has S "need_number" (lv 2 c_need_number)) (h3 : Has S "things_below" (lv 1 c_things_below)) {n : Nat} {xs : List D} {L : Hl} {Q : QE} {E : XH} (h : lv 8 c_counted (n + 1) xs L Q E) : xs.length = 2 ∧ bodyK (Ph S n) 3 P.ircounted xs L Q E := by
  obtain ⟨hn, T, many, rfl, hT, h0, hm, h⟩ := h
  refine ⟨rfl, ?_⟩
  unfold bodyK P.ircounted
  simp [startD]
  refine use_set h1 (by omega) hT ?_
  have hI : isI 0 999999 (.int many) = true := by simp [isI]; omega
  refine ph h2 ⟨by omega, .int many, 0, 999999, rfl, rfl, fun _ => ?_, fun z => (by rw [hI] at z; cases z)⟩
  try dsimp only
  show srcK _ (.tup (T.map kD)) _
  rw [sr_tup]
  refine lcR_m (enc := kD) (f := fun k => .int (kBelow k many)) T (show Src.ok (.fixed _) _ from trivial) (by have := hT.1; rw [sizeLine_eq]; omega) (fun k hk kk hkk => ?_) ?_
  · simp [wipeD]
    exact ph h3 ⟨by omega, k, many, rfl, hT.2 k hk, h0, hm, hkk⟩
  · refine ⟨_, ints_map' (fun k => kBelow k many) T, fin_same ?_⟩
    exact h
def c_same_places : Ct := fun xs L Q E => ∃ k : Kd, xs = [kD k] ∧ k.1 ≤ 6 ∧ Q (rowD (List.range k.1)) L
theorem b_same_places {Φ : Phi} {n : Nat} {xs : List D} {L : Hl} {Q : QE} {E : XH} (h : lv 1 c_same_places n xs L Q E) : xs.length = 1 ∧ bodyK Φ 1 P.irsame_places xs L Q E := by
  obtain ⟨hn, k, rfl, hk, h⟩ := h
  refine ⟨rfl, ?_⟩
  unfold bodyK P.irsame_places
  simp [startD]
  show idxK _ (.tup [.int k.1, gD k.2]) _ _
  simp
  refine ⟨by unfold RgOk; simp; omega, ?_⟩
  rw [rng0]
  exact fin_same h
/-- a row of a map: an index, places -/
def mrD (p : Nat × List Nat) : D := .tup [.int p.1, rowD p.2]
def mapD (M : List (Nat × List Nat)) : D := .tup (M.map mrD)
theorem enum_map {α : Type} (enc : α → D) : ∀ (xs : List α) (n : Nat), enumD n (xs.map enc) = (xs.zipIdx n).map fun p => .tup [.int p.2, enc p.1]
  | [], n => rfl
  | x :: xs, n => by
    rw [List.map_cons, enumD, enum_map enc xs (n + 1)]
    simp
def c_need_told_set : Ct := fun xs L Q E => ∃ T : List Kd, xs = [sD T] ∧ T.length ≤ 1000 ∧ (∀ k ∈ T, KOk k) ∧ (T.length ≤ 300 → Q .non L) ∧ (300 < T.length → E "TooGreat" L)
theorem b_need_told_set {Φ : Phi} {n : Nat} {xs : List D} {L : Hl} {Q : QE} {E : XH} (h : lv 1 c_need_told_set n xs L Q E) : xs.length = 1 ∧ bodyK Φ 3 P.irneed_told_set xs L Q E := by
  obtain ⟨hn, T, rfl, hl, hT, h1, h2⟩ := h
  refine ⟨rfl, ?_⟩
  unfold bodyK P.irneed_told_set
  simp [startD]
  show lenK _ (.tup (T.map kD)) _
  rw [ln_tup]
  simp
  by_cases hg : 300 < T.length
  · have : (300 : Int) < T.length := by omega
    simp [this]
    exact finX_same (ds := []) (h2 hg)
  · have : ¬ (300 : Int) < T.length := by omega
    simp [this]
    show srcK _ (.tup (T.map kD)) _
    rw [sr_tup]
    refine lcR_m (enc := kD) (f := fun k => .bl true) T (show Src.ok (.fixed _) _ from trivial) (by rw [sizeLine_eq]; omega) (fun k hk kk hkk => ?_) ?_
    · simp [wipeD]
      show semG _ (.tup [.int k.1, gD k.2]) _ _
      simp
      have a1 : (k.1 : Int) ≤ 6 := by have := (hT k hk).1; omega
      have a2 : (k.2.length : Int) ≤ 120 := by have := (hT k hk).2.len; omega
      simp [a1]
      show lenK _ (.tup (k.2.map rowD)) _
      rw [ln_tup]
      simp [a2]
      exact hkk
    · simp [bls_map]
      have : allB (T.map fun _ => true) = true := by rw [allB_map]; simp
      rw [if_pos this]
      exact fin_same (h1 (by omega))
def c_set_beside : Ct := fun xs L Q E => ∃ T U : List Kd, xs = [sD T, sD U] ∧ SOk T ∧ SOk U ∧ T.length + U.length ≤ 300 ∧
  Q (.tup [sD (T ++ U), mapD (T.zipIdx.map fun p => (p.2, List.range p.1.1)), mapD (U.zipIdx.map fun p => (T.length + p.2, List.range p.1.1))]) L
theorem b_set_beside {S : Specs} (h1 : Has S "need_set" (lv 7 c_need_set)) (h2 : Has S "need_told_set" (lv 1 c_need_told_set)) (h3 : Has S "same_places" (lv 1 c_same_places)) {n : Nat} {xs : List D} {L : Hl} {Q : QE} {E : XH} (h : lv 8 c_set_beside (n + 1) xs L Q E) : xs.length = 2 ∧ bodyK (Ph S n) 7 P.irset_beside xs L Q E := by
  obtain ⟨hn, T, U, rfl, hT, hU, hl, h⟩ := h
  refine ⟨rfl, ?_⟩
  unfold bodyK
  obtain ⟨R, hR⟩ : ∃ R, dropS 4 P.irset_beside = R := ⟨_, rfl⟩
  refine seg 4 hR ?_
  simp [startD, takeS, P.irset_beside]
  refine use_set h1 (by omega) hT ?_
  try dsimp only
  refine use_set h1 (by omega) hU ?_
  try dsimp only
  show binK .add _ (.tup (T.map kD)) (.tup (U.map kD)) _
  rw [b_addt]
  refine ⟨by simp; rw [sizeLine_eq]; omega, ?_⟩
  rw [← List.map_append]
  refine ph h2 ⟨by omega, T ++ U, rfl, by simp; omega, fun k hk => ?_, fun _ => ?_, fun z => ?_⟩
  · rcases List.mem_append.mp hk with q | q
    · exact hT.2 k q
    · exact hU.2 k q
  rotate_left
  · simp at z; omega
  subst hR
  have go : ∀ (V : List Kd) (f : Nat → Nat), (∀ k ∈ V, KOk k) → (∀ k : Nat × Nat, True) → ((V.zipIdx.map fun p => D.tup [.int (f p.2), rowD (List.range p.1.1)]) = (V.zipIdx.map fun p => (f p.2, List.range p.1.1)).map mrD) := fun V f _ _ => by
    rw [List.map_map]
    rfl
  simp [dropS, P.irset_beside]
  show enumK (.tup (T.map kD)) _
  rw [enumK_tup, enum_map]
  refine lcR_m (enc := fun p : Kd × Nat => D.tup [.int p.2, kD p.1]) (f := fun p => mrD (p.2, List.range p.1.1)) T.zipIdx (show Src.ok (.fixed _) _ from trivial) (by simp; rw [sizeLine_eq]; omega) (fun p hp kk hkk => ?_) ?_
  · simp [wipeD]
    have hk : p.1 ∈ T := (List.mem_zipIdx' hp).2 ▸ List.getElem_mem _
    exact ph h3 ⟨by omega, p.1, rfl, (hT.2 _ hk).1, by rw [sizeLine_eq]; decide, hkk⟩
  · show enumK (.tup (U.map kD)) _
    rw [enumK_tup, enum_map]
    refine lcR_m (enc := fun p : Kd × Nat => D.tup [.int p.2, kD p.1]) (f := fun p => mrD (T.length + p.2, List.range p.1.1)) U.zipIdx (show Src.ok (.fixed _) _ from trivial) (by simp; rw [sizeLine_eq]; omega) (fun p hp kk hkk => ?_) ?_
    · simp [wipeD]
      have hk : p.1 ∈ U := (List.mem_zipIdx' hp).2 ▸ List.getElem_mem _
      show lenK _ (.tup (T.map kD)) _
      rw [ln_tup]
      simp
      exact ph h3 ⟨by omega, p.1, rfl, (hU.2 _ hk).1, by rw [sizeLine_eq]; decide, by simpa [mrD] using hkk⟩
    · refine ⟨by rw [sizeLine_eq]; decide, fin_same ?_⟩
      have := h
      simpa [mapD, sD, Function.comp_def] using this
/-- an ascending row of indexes -/
def Part (c : Nat) (p : List Nat) : Prop := p.Pairwise (· < ·) ∧ ∀ i ∈ p, i < c
theorem part_len {c : Nat} {p : List Nat} (h : Part c p) : p.length ≤ c := len_le c p (h.1.imp fun h => Nat.ne_of_lt h) h.2
theorem part_adj : ∀ {p : List Nat}, p.Pairwise (· < ·) → ∀ q ∈ p.zip (p.drop 1), q.1 < q.2
  | [], _, q, h => by simp at h
  | [a], _, q, h => by simp at h
  | a :: b :: p, h, q, hq => by
    rw [List.pairwise_cons] at h
    simp only [List.drop_succ_cons, List.drop_zero, List.zip_cons_cons, List.mem_cons] at hq
    rcases hq with rfl | hq
    · exact h.1 b List.mem_cons_self
    · exact part_adj h.2 q (by simpa using hq)
/-- a right part -/
def c_need_part : Ct := fun xs L Q E => ∃ (T : List Kd) (p : List Nat), xs = [sD T, .tup (ts p)] ∧ T.length ≤ 1000 ∧ Part T.length p ∧ Q .non L
theorem b_need_part {S : Specs} (h1 : Has S "is_integer" (lv 1 c_is_integer)) {n : Nat} {xs : List D} {L : Hl} {Q : QE} {E : XH} (h : lv 2 c_need_part (n + 1) xs L Q E) : xs.length = 2 ∧ bodyK (Ph S n) 6 P.irneed_part xs L Q E := by
  obtain ⟨hn, T, p, rfl, hl, hp, h⟩ := h
  refine ⟨rfl, ?_⟩
  have hpl := part_len hp
  unfold bodyK P.irneed_part
  simp [startD, tnIs]
  refine lcR_m (enc := nd) (f := fun i => .bl true) p (show Src.ok (.fixed _) _ from trivial) (by rw [sizeLine_eq]; omega) (fun i hi kk hkk => ?_) ?_
  · simp [wipeD]
    show lenK _ (.tup (T.map kD)) _
    rw [ln_tup]
    simp
    refine ph h1 ⟨by omega, nd i, _, _, rfl, rfl, ?_⟩
    have : isI 0 (T.length - 1) (nd i) = true := by have := hp.2 i hi; simp [isI, nd]; omega
    rw [this]
    exact hkk
  · simp [bls_map]
    have e : zipD (ts p) ((ts p).tail) = (p.zip (p.drop 1)).map fun q => .tup [nd q.1, nd q.2] := by
      rw [show (ts p).tail = (p.drop 1).map nd by simp [ts]]
      exact zip_maps nd p (p.drop 1)
    have a1 : allB (p.map fun _ => true) = true := by rw [allB_map]; simp
    rw [a1, e]
    simp
    refine lcR_m (enc := fun q : Nat × Nat => D.tup [nd q.1, nd q.2]) (f := fun q => .bl true) (p.zip p.tail) (show Src.ok (.fixed _) _ from trivial) (by rw [List.length_zip, sizeLine_eq]; omega) (fun q hq kk hkk => ?_) ?_
    · have := part_adj hp.1 q (by rw [List.drop_one]; exact hq)
      simp [wipeD, nd, this]
      exact hkk
    · have a2 : allB ((p.zip p.tail).map fun _ => true) = true := by rw [allB_map]; simp
      simp [bls_map]
      rw [if_pos a2]
      exact fin_same h
def c_part_of : Ct := fun xs L Q E => ∃ (T : List Kd) (p : List Nat), xs = [sD T, .tup (ts p)] ∧ SOk T ∧ Part T.length p ∧
  Q (.tup [sD (p.map fun i => T.getD i (0, [])), mapD (p.map fun i => (i, List.range (T.getD i (0, [])).1))]) L
theorem b_part_of {S : Specs} (h1 : Has S "need_set" (lv 7 c_need_set)) (h2 : Has S "need_part" (lv 2 c_need_part)) (h3 : Has S "same_places" (lv 1 c_same_places)) {n : Nat} {xs : List D} {L : Hl} {Q : QE} {E : XH} (h : lv 8 c_part_of (n + 1) xs L Q E) : xs.length = 2 ∧ bodyK (Ph S n) 4 P.irpart_of xs L Q E := by
  obtain ⟨hn, T, p, rfl, hT, hp, h⟩ := h
  refine ⟨rfl, ?_⟩
  have hpl := part_len hp
  have hTl := hT.1
  have at_ : ∀ i ∈ p, (T.map kD)[i]? = some (kD (T.getD i (0, []))) := fun i hi => by
    have := hp.2 i hi
    simp [this]
  have ok_ : ∀ i ∈ p, (T.getD i (0, [])).1 ≤ 6 := fun i hi => by
    have := hp.2 i hi
    have := (hT.2 T[i] (List.getElem_mem this)).1
    simpa [hp.2 i hi] using this
  unfold bodyK P.irpart_of
  simp [startD]
  refine use_set h1 (by omega) hT ?_
  try dsimp only
  refine ph h2 ⟨by omega, T, p, rfl, by omega, hp, ?_⟩
  try dsimp only
  refine lcR_m (enc := nd) (f := fun i => kD (T.getD i (0, []))) p (show Src.ok (.fixed _) _ from trivial) (by rw [sizeLine_eq]; omega) (fun i hi kk hkk => ?_) ?_
  · simp [wipeD]
    show idxK _ (.tup (T.map kD)) (.int i) _
    rw [ix_tup]
    exact ⟨_, by rw [atN]; exact at_ i hi, hkk⟩
  · refine lcR_m (enc := nd) (f := fun i => mrD (i, List.range (T.getD i (0, [])).1)) p (show Src.ok (.fixed _) _ from trivial) (by rw [sizeLine_eq]; omega) (fun i hi kk hkk => ?_) ?_
    · simp [wipeD]
      show idxK _ (.tup (T.map kD)) (.int i) _
      rw [ix_tup]
      refine ⟨_, by rw [atN]; exact at_ i hi, ph h3 ⟨by omega, _, rfl, ok_ i hi, by rw [sizeLine_eq]; decide, ?_⟩⟩
      exact hkk
    · refine ⟨by rw [sizeLine_eq]; decide, fin_same ?_⟩
      have := h
      simpa [mapD, sD, Function.comp_def] using this
end Nr

/-! Orbits: how many things there are. -/
namespace Nr
open PySem PySem.Spec PyProof.Rows L2
theorem count_fibers {α β : Type} [DecidableEq β] (f : α → β) : ∀ (V : List β) (l : List α), V.Nodup → (∀ a ∈ l, f a ∈ V) → l.length = (V.map fun v => (l.filter fun a => decide (f a = v)).length).sum
  | [], l, _, h => by
    cases l with
    | nil => rfl
    | cons a l => exact absurd (h a List.mem_cons_self) (by simp)
  | v :: V, l, hV, h => by
    rw [List.nodup_cons] at hV
    have ih := count_fibers f V (l.filter fun a => decide ¬ decide (f a = v) = true) hV.2 fun a ha => by
      rw [List.mem_filter] at ha
      rcases List.mem_cons.mp (h a ha.1) with e | e
      · simp [e] at ha
      · exact e
    have e1 := List.length_eq_countP_add_countP (fun a => decide (f a = v)) (l := l)
    rw [List.countP_eq_length_filter, List.countP_eq_length_filter] at e1
    rw [List.map_cons, List.sum_cons, e1, ih]
    congr 2
    refine List.map_congr_left fun w hw => ?_
    congr 1
    rw [List.filter_filter]
    refine List.filter_congr fun a _ => ?_
    by_cases h : f a = w
    · have : ¬ f a = v := fun e => hV.1 (by rw [← e, h]; exact hw)
      have hv : ¬ w = v := fun e => this (h.trans e)
      simp [h, hv]
    · simp [h]
theorem sum_const {β : Type} (V : List β) (g : β → Nat) (c : Nat) (h : ∀ v ∈ V, g v = c) : (V.map g).sum = V.length * c := by
  induction V with
  | nil => simp
  | cons v V ih =>
    rw [List.map_cons, List.sum_cons, h v List.mem_cons_self, ih fun w hw => h w (List.mem_cons_of_mem _ hw), List.length_cons, Nat.succ_mul]
    omega
/-- as many, each once, all in: all -/
theorem sub_all {α : Type} [DecidableEq α] {l l' : List α} (hn : l.Nodup) (hs : ∀ x ∈ l, x ∈ l') (hl : l'.length ≤ l.length) : ∀ x ∈ l', x ∈ l := by
  intro x hx
  rcases Decidable.em (x ∈ l) with h | h
  · exact h
  · have := sub_len (l := x :: l) (l' := l') (List.nodup_cons.mpr ⟨h, hn⟩) fun y hy => (List.mem_cons.mp hy).elim (fun e => e ▸ hx) (hs y)
    simp only [List.length_cons] at this
    omega
theorem aft_inj {m : Nat} {s t r : List Nat} (hs : Tur m s) (ht : Tur m t) (hr : r.length = m) (hn : r.Nodup) (h : aft s r = aft t r) : s = t := by
  refine List.ext_getElem? fun j => ?_
  by_cases hj : j < m
  · have h1 : j < s.length := by rw [hs.1]; exact hj
    have h2 : j < t.length := by rw [ht.1]; exact hj
    have := congrArg (fun l => l[j]?) h
    unfold aft at this
    simp only [List.getElem?_map, List.getElem?_eq_getElem h1, List.getElem?_eq_getElem h2, Option.map_some, Option.some.injEq] at this
    have b1 : s[j] < r.length := by rw [hr]; exact hs.2.2 _ (List.getElem_mem h1)
    have b2 : t[j] < r.length := by rw [hr]; exact ht.2.2 _ (List.getElem_mem h2)
    have : r[s[j]] = r[t[j]] := by simpa [b1, b2] using this
    rw [List.getElem?_eq_getElem h1, List.getElem?_eq_getElem h2, (List.getElem_inj hn).mp this]
  · rw [List.getElem?_eq_none (by rw [hs.1]; omega), List.getElem?_eq_none (by rw [ht.1]; omega)]
theorem aft_len (s r : List Nat) : (aft s r).length = s.length := by simp [aft]
/-- what turns back -/
theorem Grp.back {m : Nat} {G : List (List Nat)} (h : Grp m G) {t : List Nat} (ht : t ∈ G) : ∃ s ∈ G, aft s t = List.range m := by
  have tt := h.tur t ht
  have hn : (G.map fun s => aft s t).Nodup := nodup_map (fun x hx y hy e => aft_inj (h.tur x hx) (h.tur y hy) tt.1 tt.2.1 e) h.nodup
  have hall := sub_all hn (fun x hx => by
    obtain ⟨s, hs, rfl⟩ := List.mem_map.mp hx
    exact h.mul s hs t ht) (by simp)
  have h1 : List.range m ∈ G := by
    have := h.one
    exact List.mem_of_mem_head? this
  obtain ⟨s, hs, e⟩ := List.mem_map.mp (hall _ h1)
  exact ⟨s, hs, e⟩
def cst (r : List Nat) : List Int := r.map fun n : Nat => (n : Int)
theorem cst_inj {r s : List Nat} (h : cst r = cst s) : r = s := (List.map_inj_right (f := fun n : Nat => (n : Int)) fun a b e => by omega).mp h
theorem cst_trn {t r : List Nat} (h : ∀ i ∈ t, i < r.length) : trn t (cst r) = cst (aft t r) := by
  unfold trn cst aft
  rw [List.map_map]
  refine List.map_congr_left fun i hi => ?_
  simp [h i hi]
/-- the least of a row and of the row turned are one -/
theorem least_turn {m : Nat} {G : List (List Nat)} (h : Grp m G) {s r : List Nat} (hs : s ∈ G) (hr : r.length = m) : leastR G (cst (aft s r)) = leastR G (cst r) := by
  have ts := h.tur s hs
  have lt : ∀ t ∈ G, ∀ i ∈ t, i < m := fun t ht => (h.tur t ht).2.2
  have e : ∀ t ∈ G, trn t (cst (aft s r)) = trn (aft t s) (cst r) := fun t ht => by
    rw [cst_trn (fun i hi => by rw [aft_len, ts.1]; exact lt t ht i hi), cst_trn (fun i hi => by rw [hr]; exact (tur_after (h.tur t ht) ts).2.2 i hi), aft_assoc fun i hi => by rw [ts.1]; exact lt t ht i hi]
  have hne : G ≠ [] := List.ne_nil_of_mem hs
  obtain ⟨⟨t0, ht0, e0⟩, h2⟩ := leastR_spec (r := cst r) hne
  refine leastR_uniq ?_ fun t ht => ?_
  · obtain ⟨s', hs', e'⟩ := h.back hs
    refine ⟨aft t0 s', h.mul _ ht0 _ hs', ?_⟩
    rw [e _ (h.mul _ ht0 _ hs'), aft_assoc (fun i hi => by rw [(h.tur s' hs').1]; exact lt t0 ht0 i hi), e', e0]
    congr 1
    refine List.ext_getElem? fun j => ?_
    unfold aft
    rw [List.getElem?_map]
    cases q : t0[j]? with
    | none => rfl
    | some p =>
      have := lt t0 ht0 p (List.mem_of_getElem? q)
      simp [this]
  · rw [e t ht]
    exact h2 _ (h.mul _ ht _ hs)
/-- rows with one least row are one another's turned ones -/
theorem least_orbit {m : Nat} {G : List (List Nat)} (h : Grp m G) {r s : List Nat} (hr : r.length = m) (hs : s.length = m) (e : leastR G (cst r) = leastR G (cst s)) : ∃ t ∈ G, r = aft t s := by
  have hne : G ≠ [] := fun z => by have := h.ne; rw [z] at this; simp at this
  obtain ⟨⟨a, ha, ea⟩, _⟩ := leastR_spec (r := cst r) hne
  obtain ⟨⟨b, hb, eb⟩, _⟩ := leastR_spec (r := cst s) hne
  have lt : ∀ t ∈ G, ∀ i ∈ t, i < m := fun t ht => (h.tur t ht).2.2
  rw [ea, eb, cst_trn (fun i hi => by rw [hr]; exact lt a ha i hi), cst_trn (fun i hi => by rw [hs]; exact lt b hb i hi)] at e
  have e := cst_inj e
  obtain ⟨a', ha', ea'⟩ := h.back ha
  refine ⟨aft a' b, h.mul _ ha' _ hb, ?_⟩
  rw [aft_assoc (fun i hi => by rw [(h.tur b hb).1]; exact lt a' ha' i hi), ← e, ← aft_assoc (fun i hi => by rw [(h.tur a ha).1]; exact lt a' ha' i hi), ea', aft_one hr]
/-- how many least rows there are -/
theorem orbits {m many : Nat} {G : List (List Nat)} (h : Grp m G) : (uniq ((rowsOf many m).map fun r => leastR G (cst r))).length * G.length = falls many m := by
  have hn := rowsOf_nodup many m
  have hm : ∀ {r}, r ∈ rowsOf many m ↔ r.length = m ∧ r.Nodup ∧ ∀ i ∈ r, i < many := fun {r} => rowsOf_mem
  have key := count_fibers (fun r => leastR G (cst r)) (uniq ((rowsOf many m).map fun r => leastR G (cst r))) (rowsOf many m) (uniq_nodup _) fun a ha => uniq_mem.mpr (List.mem_map.mpr ⟨a, ha, rfl⟩)
  rw [rowsOf_len, sum_const _ _ G.length] at key
  · exact key.symm
  · intro v hv
    obtain ⟨r0, hr0, rfl⟩ := List.mem_map.mp (uniq_mem.mp hv)
    obtain ⟨a1, a2, a3⟩ := hm.mp hr0
    have p : ((rowsOf many m).filter fun r => decide (leastR G (cst r) = leastR G (cst r0))).Perm (G.map fun t => aft t r0) := by
      refine (List.perm_ext_iff_of_nodup (hn.filter _) (nodup_map (fun x hx y hy e => aft_inj (h.tur x hx) (h.tur y hy) a1 a2 e) h.nodup)).mpr fun r => ?_
      rw [List.mem_filter, List.mem_map, decide_eq_true_eq]
      constructor
      · rintro ⟨hr, e⟩
        obtain ⟨t, ht, e2⟩ := least_orbit h (hm.mp hr).1 a1 e
        exact ⟨t, ht, e2.symm⟩
      · rintro ⟨t, ht, rfl⟩
        have tt := h.tur t ht
        refine ⟨hm.mpr ⟨by rw [aft_len, tt.1], ?_, fun i hi => ?_⟩, least_turn h ht a1⟩
        · unfold aft
          refine nodup_map (fun x hx y hy e => ?_) tt.2.1
          have b1 : x < r0.length := by rw [a1]; exact tt.2.2 x hx
          have b2 : y < r0.length := by rw [a1]; exact tt.2.2 y hy
          have : r0[x] = r0[y] := by simpa [b1, b2] using e
          exact (List.getElem_inj a2).mp this
        · unfold aft at hi
          obtain ⟨x, hx, rfl⟩ := List.mem_map.mp hi
          have b1 : x < r0.length := by rw [a1]; exact tt.2.2 x hx
          rw [show r0.getD x 0 = r0[x] by simp [b1]]
          exact a3 _ (List.getElem_mem b1)
    rw [p.length_eq, List.length_map]
theorem pbelow_falls (many : Nat) : ∀ k, pbelow many k = (falls many k : Nat)
  | 0 => rfl
  | k + 1 => by
    rw [pbelow, pbelow_falls many k, falls, Int.natCast_mul]
    congr 1
    by_cases h : k ≤ many
    · rw [Int.max_eq_right (by omega)]
      omega
    · rw [Int.max_eq_left (by omega), show many - k = 0 by omega]
      rfl
theorem kBelow_orbits {k : Kd} (h : Grp k.1 k.2) (many : Nat) : kBelow k many = ((uniq ((rowsOf many k.1).map fun r => leastR k.2 (cst r))).length : Nat) := by
  have := orbits (many := many) h
  have hne := h.ne
  unfold kBelow
  rw [pbelow_falls, ← this, Int.natCast_mul]
  exact Int.mul_ediv_cancel _ (by omega)
end Nr

namespace K05
open PySem PySem.Spec PyProof.Rows L2 Nr
def top (i : Nat) : Stmt := PySem.Challenge.pw_namerooms_k05_whole_things_counted.main.body.getD i (.Pass ⟨0, 0, 0, 0⟩)
abbrev iris_integer : ISs := P.iris_integer
def dis_integer : Def := { nm := "is_integer", N := ["thing", "least", "most"], np := 3, args := defArgs (top 10), body := defBody (top 10), sc := defScope (top 10), ir := iris_integer }
abbrev irneed_number : ISs := P.irneed_number
def dneed_number : Def := { nm := "need_number", N := ["thing", "least", "most"], np := 3, args := defArgs (top 11), body := defBody (top 11), sc := defScope (top 11), ir := irneed_number }
abbrev iris_row_unlike : ISs := P.iris_row_unlike
def dis_row_unlike : Def := { nm := "is_row_unlike", N := ["thing", "least", "most", "entry"], np := 3, args := defArgs (top 12), body := defBody (top 12), sc := defScope (top 12), ir := iris_row_unlike }
abbrev iris_turning_form : ISs := P.iris_turning_form
def dis_turning_form : Def := { nm := "is_turning_form", N := ["thing", "many"], np := 2, args := defArgs (top 13), body := defBody (top 13), sc := defScope (top 13), ir := iris_turning_form }
abbrev irturned_by : ISs := P.irturned_by
def dturned_by : Def := { nm := "turned_by", N := ["turning", "row", "at"], np := 2, args := defArgs (top 14), body := defBody (top 14), sc := defScope (top 14), ir := irturned_by }
abbrev irstill : ISs := P.irstill
def dstill : Def := { nm := "still", N := ["many"], np := 1, args := defArgs (top 15), body := defBody (top 15), sc := defScope (top 15), ir := irstill }
abbrev iris_group_form : ISs := P.iris_group_form
def dis_group_form : Def := { nm := "is_group_form", N := ["many", "thing", "there", "one", "other"], np := 2, args := defArgs (top 18), body := defBody (top 18), sc := defScope (top 18), ir := iris_group_form }
abbrev irleast_row : ISs := P.irleast_row
def dleast_row : Def := { nm := "least_row", N := ["group", "row", "one"], np := 2, args := defArgs (top 19), body := defBody (top 19), sc := defScope (top 19), ir := irleast_row }
abbrev iris_many : ISs := P.iris_many
def dis_many : Def := { nm := "is_many", N := ["thing"], np := 1, args := defArgs (top 20), body := defBody (top 20), sc := defScope (top 20), ir := iris_many }
abbrev iris_kind_form : ISs := P.iris_kind_form
def dis_kind_form : Def := { nm := "is_kind_form", N := ["thing"], np := 1, args := defArgs (top 23), body := defBody (top 23), sc := defScope (top 23), ir := iris_kind_form }
abbrev iris_set_form : ISs := P.iris_set_form
def dis_set_form : Def := { nm := "is_set_form", N := ["thing", "kind"], np := 1, args := defArgs (top 24), body := defBody (top 24), sc := defScope (top 24), ir := iris_set_form }
abbrev irneed_set : ISs := P.irneed_set
def dneed_set : Def := { nm := "need_set", N := ["thing"], np := 1, args := defArgs (top 25), body := defBody (top 25), sc := defScope (top 25), ir := irneed_set }
abbrev irneed_told_set : ISs := P.irneed_told_set
def dneed_told_set : Def := { nm := "need_told_set", N := ["thing", "many", "group"], np := 1, args := defArgs (top 26), body := defBody (top 26), sc := defScope (top 26), ir := irneed_told_set }
abbrev irneed_index : ISs := P.irneed_index
def dneed_index : Def := { nm := "need_index", N := ["things", "index"], np := 2, args := defArgs (top 27), body := defBody (top 27), sc := defScope (top 27), ir := irneed_index }
abbrev irtold : ISs := P.irtold
def dtold : Def := { nm := "told", N := ["things", "index", "names"], np := 3, args := defArgs (top 28), body := defBody (top 28), sc := defScope (top 28), ir := irtold }
abbrev irthings_below : ISs := P.irthings_below
def dthings_below : Def := { nm := "things_below", N := ["kind", "many", "found", "turn"], np := 2, args := defArgs (top 29), body := defBody (top 29), sc := defScope (top 29), ir := irthings_below }
abbrev irneed_part : ISs := P.irneed_part
def dneed_part : Def := { nm := "need_part", N := ["things", "thing", "good", "index", "one", "other"], np := 2, args := defArgs (top 30), body := defBody (top 30), sc := defScope (top 30), ir := irneed_part }
abbrev irsame_places : ISs := P.irsame_places
def dsame_places : Def := { nm := "same_places", N := ["kind"], np := 1, args := defArgs (top 32), body := defBody (top 32), sc := defScope (top 32), ir := irsame_places }
abbrev irthing_of : ISs := P.irthing_of
def dthing_of : Def := { nm := "thing_of", N := ["things", "index", "names"], np := 3, args := defArgs (top 34), body := defBody (top 34), sc := defScope (top 34), ir := irthing_of }
abbrev ircounted : ISs := P.ircounted
def dcounted : Def := { nm := "counted", N := ["things", "many", "kind"], np := 2, args := defArgs (top 35), body := defBody (top 35), sc := defScope (top 35), ir := ircounted }
abbrev irpart_of : ISs := P.irpart_of
def dpart_of : Def := { nm := "part_of", N := ["things", "part", "kinds", "index"], np := 2, args := defArgs (top 36), body := defBody (top 36), sc := defScope (top 36), ir := irpart_of }
abbrev irset_beside : ISs := P.irset_beside
def dset_beside : Def := { nm := "set_beside", N := ["things", "others", "both", "first", "last", "index", "kind"], np := 2, args := defArgs (top 37), body := defBody (top 37), sc := defScope (top 37), ir := irset_beside }
abbrev ir_law_feed : ISs := P.ir_law_feed 2411 29 3 47 31 37
def d_law_feed : Def := { nm := "_law_feed", N := ["script", "k", "cell"], np := 2, args := defArgs (top 39), body := defBody (top 39), sc := defScope (top 39), ir := ir_law_feed }
abbrev ir_law_draw : ISs := P.ir_law_draw 67867967 32452843 11 982451653
def d_law_draw : Def := { nm := "_law_draw", N := ["feed", "many", "got", "stir"], np := 2, args := defArgs (top 40), body := defBody (top 40), sc := defScope (top 40), ir := ir_law_draw }
abbrev ir_law_one : ISs := P.ir_law_one
def d_law_one : Def := { nm := "_law_one", N := ["feed", "things"], np := 2, args := defArgs (top 41), body := defBody (top 41), sc := defScope (top 41), ir := ir_law_one }
abbrev ir_law_same : ISs := P.ir_law_same
def d_law_same : Def := { nm := "_law_same", N := ["told_v", "due", "one", "other"], np := 2, args := defArgs (top 42), body := defBody (top 42), sc := defScope (top 42), ir := ir_law_same }
abbrev ir_law_mixed : ISs := P.ir_law_mixed
def d_law_mixed : Def := { nm := "_law_mixed", N := ["feed", "things", "left", "found", "turn"], np := 2, args := defArgs (top 43), body := defBody (top 43), sc := defScope (top 43), ir := ir_law_mixed }
abbrev ir_law_turned : ISs := P.ir_law_turned
def d_law_turned : Def := { nm := "_law_turned", N := ["turning", "row", "at"], np := 2, args := defArgs (top 44), body := defBody (top 44), sc := defScope (top 44), ir := ir_law_turned }
abbrev ir_law_longer : ISs := P.ir_law_longer
def d_law_longer : Def := { nm := "_law_longer", N := ["rows", "many", "found", "row", "place"], np := 2, args := defArgs (top 45), body := defBody (top 45), sc := defScope (top 45), ir := ir_law_longer }
abbrev ir_law_turnings : ISs := P.ir_law_turnings
def d_law_turnings : Def := { nm := "_law_turnings", N := ["many", "found", "turn"], np := 1, args := defArgs (top 46), body := defBody (top 46), sc := defScope (top 46), ir := ir_law_turnings }
abbrev ir_law_closed : ISs := P.ir_law_closed
def d_law_closed : Def := { nm := "_law_closed", N := ["many", "turnings", "found", "turn", "one", "made"], np := 2, args := defArgs (top 47), body := defBody (top 47), sc := defScope (top 47), ir := ir_law_closed }
abbrev ir_law_group : ISs := P.ir_law_group
def d_law_group : Def := { nm := "_law_group", N := ["feed", "many", "turnings", "turn"], np := 2, args := defArgs (top 48), body := defBody (top 48), sc := defScope (top 48), ir := ir_law_group }
abbrev ir_law_least : ISs := P.ir_law_least
def d_law_least : Def := { nm := "_law_least", N := ["group", "row", "one"], np := 2, args := defArgs (top 49), body := defBody (top 49), sc := defScope (top 49), ir := ir_law_least }
abbrev ir_law_kinds : ISs := P.ir_law_kinds
def d_law_kinds : Def := { nm := "_law_kinds", N := ["feed", "many", "most", "least_names", "found", "turn", "size"], np := 4, args := defArgs (top 50), body := defBody (top 50), sc := defScope (top 50), ir := ir_law_kinds }
def ir_law_unlike : ISs := (.cons (.asg (.n 2) (.newl (.disp .nil))) (.cons (.for_ (.n 3) (.rng (.one (.var 1))) (.cons (.asg (.n 4) (.ite (.cmp .gt (.call "_law_draw" (.cons (.var 0) (.cons (.int 3) .nil))) (.int 0)) (.call "_law_draw" (.cons (.var 0) (.cons (.int 12) .nil))) (.call "_law_draw" (.cons (.var 0) (.cons (.int 1000000) .nil))))) (.cons (.for_ (.n 5) (.rng (.one (.int 20))) (.cons (.ite (.cmp .notin (.var 4) (.var 2)) (.cons .brk .nil) .nil) (.cons (.asg (.n 4) (.bin .mod (.bi .int (.cons (.bin .add (.var 4) (.int 1)) .nil)) (.int 1000000))) .nil))) (.cons (.expr (.meth .append (.var 2) (.cons (.var 4) .nil))) .nil)))) (.cons (.ret (.bi .tuple (.cons (.var 2) .nil))) .nil)))
def d_law_unlike : Def := { nm := "_law_unlike", N := ["feed", "many", "found", "turn", "name", "step"], np := 2, args := defArgs (top 51), body := defBody (top 51), sc := defScope (top 51), ir := ir_law_unlike }
def ir_law_below : ISs := (.cons (.asg (.n 2) (.int 0)) (.cons (.for_ (.t (.cons (.n 3) (.cons (.t (.cons (.n 4) (.cons (.n 5) .nil))) .nil))) (.enum (.var 0)) (.cons (.par [6, 7] (.cons (.frz (.disp (.cons (.tup .nil) .nil))) (.cons (.newd (.nil true)) .nil))) (.cons (.for_ (.n 8) (.rng (.one (.var 4))) (.cons (.asg (.n 6) (.call "_law_longer" (.cons (.var 6) (.cons (.var 1) .nil)))) .nil)) (.cons (.for_ (.n 9) (.seq (.var 6)) (.cons (.seti (.var 7) (.call "thing_of" (.cons (.var 0) (.cons (.var 3) (.cons (.var 9) .nil)))) (.bl true)) .nil)) (.cons (.asg (.n 2) (.bin .add (.var 2) (.bi .len (.cons (.var 7) .nil)))) .nil))))) (.cons (.ret (.var 2)) .nil)))
def d_law_below : Def := { nm := "_law_below", N := ["things", "many", "found", "index", "size", "group", "rows", "there", "turn", "row"], np := 2, args := defArgs (top 52), body := defBody (top 52), sc := defScope (top 52), ir := ir_law_below }
def ir_law_great : ISs := (.cons (.asg (.n 2) (.int 0)) (.cons (.for_ (.t (.cons (.n 3) (.cons (.n 4) .nil))) (.seq (.var 0)) (.cons (.asg (.n 5) (.int 1)) (.cons (.for_ (.n 6) (.rng (.one (.var 3))) (.cons (.asg (.n 5) (.bin .mul (.var 5) (.bin .sub (.var 1) (.var 6)))) .nil)) (.cons (.asg (.n 2) (.bin .add (.var 2) (.bin .fdiv (.var 5) (.bi .len (.cons (.var 4) .nil))))) .nil)))) (.cons (.ret (.var 2)) .nil)))
def d_law_great : Def := { nm := "_law_great", N := ["things", "many", "found", "size", "group", "rows", "turn"], np := 2, args := defArgs (top 53), body := defBody (top 53), sc := defScope (top 53), ir := ir_law_great }
def ir_law_right : ISs := (.cons (.asg (.n 1) (.call "_law_kinds" (.cons (.var 0) (.cons (.call "_law_draw" (.cons (.var 0) (.cons (.int 5) .nil))) (.cons (.int 4) (.cons (.int 0) .nil)))))) (.cons (.asg (.n 2) (.call "_law_kinds" (.cons (.var 0) (.cons (.call "_law_draw" (.cons (.var 0) (.cons (.int 3) .nil))) (.cons (.int 3) (.cons (.int 0) .nil)))))) (.cons (.par [3, 4] (.cons (.call "_law_draw" (.cons (.var 0) (.cons (.int 5) .nil))) (.cons (.bin .add (.int 10) (.call "_law_draw" (.cons (.var 0) (.cons (.int 999990) .nil)))) .nil))) (.cons (.par [5, 6] (.cons (.call "_law_below" (.cons (.var 1) (.cons (.var 3) .nil))) (.cons (.call "_law_below" (.cons (.var 2) (.cons (.var 3) .nil))) .nil))) (.cons (.ite (.not (.call "_law_same" (.cons (.frz (.disp (.cons (.call "counted" (.cons (.var 1) (.cons (.var 3) .nil))) (.cons (.callk "counted" .nil (.cons (.var 3) (.cons (.var 2) .nil)) [1, 0]) .nil)))) (.cons (.frz (.disp (.cons (.var 5) (.cons (.var 6) .nil)))) .nil)))) (.cons (.ret (.bl false)) .nil) .nil) (.cons (.ite (.not (.call "_law_same" (.cons (.call "counted" (.cons (.var 1) (.cons (.var 4) .nil))) (.cons (.call "_law_great" (.cons (.var 1) (.cons (.var 4) .nil))) .nil)))) (.cons (.ret (.bl false)) .nil) .nil) (.cons (.asg (.t (.cons (.n 7) (.cons (.n 8) (.cons (.n 9) .nil)))) (.call "set_beside" (.cons (.var 1) (.cons (.var 2) .nil)))) (.cons (.ite (.or (.cons (.cmp .ne (.var 7) (.bin .add (.var 1) (.var 2))) (.cons (.not (.call "_law_same" (.cons (.call "counted" (.cons (.var 7) (.cons (.var 3) .nil))) (.cons (.bin .add (.var 5) (.var 6)) .nil)))) .nil))) (.cons (.ret (.bl false)) .nil) .nil) (.cons (.asg (.n 10) (.bi .tuple (.cons (.frz (.lc [14] (.var 14) (.n 14) (.rng (.one (.bi .len (.cons (.var 1) .nil)))) (.cons (.cmp .eq (.call "_law_draw" (.cons (.var 0) (.cons (.int 2) .nil))) (.int 0)) .nil))) .nil))) (.cons (.asg (.t (.cons (.n 11) (.cons (.n 12) .nil))) (.call "part_of" (.cons (.var 1) (.cons (.var 10) .nil)))) (.cons (.ite (.or (.cons (.cmp .ne (.var 11) (.bi .tuple (.cons (.frz (.lc [14] (.idx (.var 1) (.var 14)) (.n 14) (.seq (.var 10)) .nil)) .nil))) (.cons (.not (.call "_law_same" (.cons (.callk "part_of" .nil (.cons (.var 10) (.cons (.var 1) .nil)) [1, 0]) (.cons (.tup (.cons (.var 11) (.cons (.var 12) .nil))) .nil)))) .nil))) (.cons (.ret (.bl false)) .nil) .nil) (.cons (.asg (.n 13) (.frz (.lc [14, 15] (.tup (.cons (.var 14) (.cons (.tupr (.one (.idx (.var 15) (.int 0)))) .nil))) (.t (.cons (.n 14) (.cons (.n 15) .nil))) (.zip (.var 10) (.var 11)) .nil))) (.cons (.ite (.or (.cons (.not (.call "_law_same" (.cons (.var 12) (.cons (.bi .tuple (.cons (.var 13) .nil)) .nil)))) (.cons (.not (.call "_law_same" (.cons (.callk "set_beside" .nil (.cons (.var 2) (.cons (.var 1) .nil)) [1, 0]) (.cons (.tup (.cons (.var 7) (.cons (.var 8) (.cons (.var 9) .nil)))) .nil)))) .nil))) (.cons (.ret (.bl false)) .nil) .nil) (.cons (.asg (.n 5) (.newl (.disp (.cons (.bi .tuple (.cons (.frz (.lc [14, 15] (.tup (.cons (.var 14) (.cons (.tupr (.one (.idx (.var 15) (.int 0)))) .nil))) (.t (.cons (.n 14) (.cons (.n 15) .nil))) (.enum (.var 1)) .nil)) .nil)) .nil)))) (.cons (.expr (.meth .append (.var 5) (.cons (.bi .tuple (.cons (.frz (.lc [14, 15] (.tup (.cons (.bin .add (.bi .len (.cons (.var 1) .nil)) (.var 14)) (.cons (.tupr (.one (.idx (.var 15) (.int 0)))) .nil))) (.t (.cons (.n 14) (.cons (.n 15) .nil))) (.enum (.var 2)) .nil)) .nil)) .nil))) (.cons (.ret (.call "_law_same" (.cons (.frz (.disp (.cons (.var 8) (.cons (.var 9) .nil)))) (.cons (.give 5) .nil)))) .nil))))))))))))))))
def d_law_right : Def := { nm := "_law_right", N := ["feed", "things", "others", "many", "great", "due", "more", "both", "first", "last", "part", "some", "function", "ways", "index", "kind"], np := 1, args := defArgs (top 54), body := defBody (top 54), sc := defScope (top 54), ir := ir_law_right }
abbrev irlaw : ISs := P.irlawT 3 2
def dlaw : Def := { nm := "law", N := ["script", "k", "feed", "turn"], np := 1, args := defArgs (top 55), body := defBody (top 55), sc := defScope (top 55), ir := irlaw }
def kwl : List (Str × Nat × List Str × List Nat) := [("set_beside", 0, ["others", "things"], [1, 0]), ("part_of", 0, ["part", "things"], [1, 0]), ("counted", 0, ["many", "things"], [1, 0])]
def T : Tb := { defs := [dis_integer, dneed_number, dis_row_unlike, dis_turning_form, dturned_by, dstill, dis_group_form, dleast_row, dis_many, dis_kind_form, dis_set_form, dneed_set, dneed_told_set, dneed_index, dtold, dthings_below, dneed_part, dsame_places, dthing_of, dcounted, dpart_of, dset_beside, d_law_feed, d_law_draw, d_law_one, d_law_same, d_law_mixed, d_law_turned, d_law_longer, d_law_turnings, d_law_closed, d_law_group, d_law_least, d_law_kinds, d_law_unlike, d_law_below, d_law_great, d_law_right, dlaw], cst := [("LAST_NAME", 999999), ("MOST_TURNINGS", 120), ("MOST_KINDS", 300)], kws := kwl, exs := ["BadIndex", "BadNames", "BadNumber", "BadPart", "BadSet", "TooGreat"] }
theorem T_chk : T.defs.all (fun d => T.chk d && T.kwC d) = true := by decide +kernel
theorem bis_integer : BindOk T dis_integer := fun kV doc pm an cdv ct => ⟨fun us hl => match us, hl with
  | [_, _, _], _ => rfl, by
  refine List.forall_mem_cons.mpr ⟨?_, List.forall_mem_cons.mpr ⟨?_, List.forall_mem_cons.mpr ⟨?_, fun q hq => absurd hq List.not_mem_nil⟩⟩⟩
  · exact fun hn => absurd hn (by decide)
  · exact fun hn => absurd hn (by decide)
  · exact fun hn => absurd hn (by decide)
⟩
theorem bneed_number : BindOk T dneed_number := fun kV doc pm an cdv ct => ⟨fun us hl => match us, hl with
  | [_, _, _], _ => rfl, by
  refine List.forall_mem_cons.mpr ⟨?_, List.forall_mem_cons.mpr ⟨?_, List.forall_mem_cons.mpr ⟨?_, fun q hq => absurd hq List.not_mem_nil⟩⟩⟩
  · exact fun hn => absurd hn (by decide)
  · exact fun hn => absurd hn (by decide)
  · exact fun hn => absurd hn (by decide)
⟩
theorem bis_row_unlike : BindOk T dis_row_unlike := fun kV doc pm an cdv ct => ⟨fun us hl => match us, hl with
  | [_, _, _], _ => rfl, by
  refine List.forall_mem_cons.mpr ⟨?_, List.forall_mem_cons.mpr ⟨?_, List.forall_mem_cons.mpr ⟨?_, fun q hq => absurd hq List.not_mem_nil⟩⟩⟩
  · exact fun hn => absurd hn (by decide)
  · exact fun hn => absurd hn (by decide)
  · exact fun hn => absurd hn (by decide)
⟩
theorem bis_turning_form : BindOk T dis_turning_form := fun kV doc pm an cdv ct => ⟨fun us hl => match us, hl with
  | [_, _], _ => rfl, by
  refine List.forall_mem_cons.mpr ⟨?_, List.forall_mem_cons.mpr ⟨?_, List.forall_mem_cons.mpr ⟨?_, fun q hq => absurd hq List.not_mem_nil⟩⟩⟩
  · exact fun hn => absurd hn (by decide)
  · exact fun hn => absurd hn (by decide)
  · exact fun hn => absurd hn (by decide)
⟩
theorem bturned_by : BindOk T dturned_by := fun kV doc pm an cdv ct => ⟨fun us hl => match us, hl with
  | [_, _], _ => rfl, by
  refine List.forall_mem_cons.mpr ⟨?_, List.forall_mem_cons.mpr ⟨?_, List.forall_mem_cons.mpr ⟨?_, fun q hq => absurd hq List.not_mem_nil⟩⟩⟩
  · exact fun hn => absurd hn (by decide)
  · exact fun hn => absurd hn (by decide)
  · exact fun hn => absurd hn (by decide)
⟩
theorem bstill : BindOk T dstill := fun kV doc pm an cdv ct => ⟨fun us hl => match us, hl with
  | [_], _ => rfl, by
  refine List.forall_mem_cons.mpr ⟨?_, List.forall_mem_cons.mpr ⟨?_, List.forall_mem_cons.mpr ⟨?_, fun q hq => absurd hq List.not_mem_nil⟩⟩⟩
  · exact fun hn => absurd hn (by decide)
  · exact fun hn => absurd hn (by decide)
  · exact fun hn => absurd hn (by decide)
⟩
theorem bis_group_form : BindOk T dis_group_form := fun kV doc pm an cdv ct => ⟨fun us hl => match us, hl with
  | [_, _], _ => rfl, by
  refine List.forall_mem_cons.mpr ⟨?_, List.forall_mem_cons.mpr ⟨?_, List.forall_mem_cons.mpr ⟨?_, fun q hq => absurd hq List.not_mem_nil⟩⟩⟩
  · exact fun hn => absurd hn (by decide)
  · exact fun hn => absurd hn (by decide)
  · exact fun hn => absurd hn (by decide)
⟩
theorem bleast_row : BindOk T dleast_row := fun kV doc pm an cdv ct => ⟨fun us hl => match us, hl with
  | [_, _], _ => rfl, by
  refine List.forall_mem_cons.mpr ⟨?_, List.forall_mem_cons.mpr ⟨?_, List.forall_mem_cons.mpr ⟨?_, fun q hq => absurd hq List.not_mem_nil⟩⟩⟩
  · exact fun hn => absurd hn (by decide)
  · exact fun hn => absurd hn (by decide)
  · exact fun hn => absurd hn (by decide)
⟩
theorem bis_many : BindOk T dis_many := fun kV doc pm an cdv ct => ⟨fun us hl => match us, hl with
  | [_], _ => rfl, by
  refine List.forall_mem_cons.mpr ⟨?_, List.forall_mem_cons.mpr ⟨?_, List.forall_mem_cons.mpr ⟨?_, fun q hq => absurd hq List.not_mem_nil⟩⟩⟩
  · exact fun hn => absurd hn (by decide)
  · exact fun hn => absurd hn (by decide)
  · exact fun hn => absurd hn (by decide)
⟩
theorem bis_kind_form : BindOk T dis_kind_form := fun kV doc pm an cdv ct => ⟨fun us hl => match us, hl with
  | [_], _ => rfl, by
  refine List.forall_mem_cons.mpr ⟨?_, List.forall_mem_cons.mpr ⟨?_, List.forall_mem_cons.mpr ⟨?_, fun q hq => absurd hq List.not_mem_nil⟩⟩⟩
  · exact fun hn => absurd hn (by decide)
  · exact fun hn => absurd hn (by decide)
  · exact fun hn => absurd hn (by decide)
⟩
theorem bis_set_form : BindOk T dis_set_form := fun kV doc pm an cdv ct => ⟨fun us hl => match us, hl with
  | [_], _ => rfl, by
  refine List.forall_mem_cons.mpr ⟨?_, List.forall_mem_cons.mpr ⟨?_, List.forall_mem_cons.mpr ⟨?_, fun q hq => absurd hq List.not_mem_nil⟩⟩⟩
  · exact fun hn => absurd hn (by decide)
  · exact fun hn => absurd hn (by decide)
  · exact fun hn => absurd hn (by decide)
⟩
theorem bneed_set : BindOk T dneed_set := fun kV doc pm an cdv ct => ⟨fun us hl => match us, hl with
  | [_], _ => rfl, by
  refine List.forall_mem_cons.mpr ⟨?_, List.forall_mem_cons.mpr ⟨?_, List.forall_mem_cons.mpr ⟨?_, fun q hq => absurd hq List.not_mem_nil⟩⟩⟩
  · exact fun hn => absurd hn (by decide)
  · exact fun hn => absurd hn (by decide)
  · exact fun hn => absurd hn (by decide)
⟩
theorem bneed_told_set : BindOk T dneed_told_set := fun kV doc pm an cdv ct => ⟨fun us hl => match us, hl with
  | [_], _ => rfl, by
  refine List.forall_mem_cons.mpr ⟨?_, List.forall_mem_cons.mpr ⟨?_, List.forall_mem_cons.mpr ⟨?_, fun q hq => absurd hq List.not_mem_nil⟩⟩⟩
  · exact fun hn => absurd hn (by decide)
  · exact fun hn => absurd hn (by decide)
  · exact fun hn => absurd hn (by decide)
⟩
theorem bneed_index : BindOk T dneed_index := fun kV doc pm an cdv ct => ⟨fun us hl => match us, hl with
  | [_, _], _ => rfl, by
  refine List.forall_mem_cons.mpr ⟨?_, List.forall_mem_cons.mpr ⟨?_, List.forall_mem_cons.mpr ⟨?_, fun q hq => absurd hq List.not_mem_nil⟩⟩⟩
  · exact fun hn => absurd hn (by decide)
  · exact fun hn => absurd hn (by decide)
  · exact fun hn => absurd hn (by decide)
⟩
theorem btold : BindOk T dtold := fun kV doc pm an cdv ct => ⟨fun us hl => match us, hl with
  | [_, _, _], _ => rfl, by
  refine List.forall_mem_cons.mpr ⟨?_, List.forall_mem_cons.mpr ⟨?_, List.forall_mem_cons.mpr ⟨?_, fun q hq => absurd hq List.not_mem_nil⟩⟩⟩
  · exact fun hn => absurd hn (by decide)
  · exact fun hn => absurd hn (by decide)
  · exact fun hn => absurd hn (by decide)
⟩
theorem bthings_below : BindOk T dthings_below := fun kV doc pm an cdv ct => ⟨fun us hl => match us, hl with
  | [_, _], _ => rfl, by
  refine List.forall_mem_cons.mpr ⟨?_, List.forall_mem_cons.mpr ⟨?_, List.forall_mem_cons.mpr ⟨?_, fun q hq => absurd hq List.not_mem_nil⟩⟩⟩
  · exact fun hn => absurd hn (by decide)
  · exact fun hn => absurd hn (by decide)
  · exact fun hn => absurd hn (by decide)
⟩
theorem bneed_part : BindOk T dneed_part := fun kV doc pm an cdv ct => ⟨fun us hl => match us, hl with
  | [_, _], _ => rfl, by
  refine List.forall_mem_cons.mpr ⟨?_, List.forall_mem_cons.mpr ⟨?_, List.forall_mem_cons.mpr ⟨?_, fun q hq => absurd hq List.not_mem_nil⟩⟩⟩
  · exact fun hn => absurd hn (by decide)
  · exact fun hn => absurd hn (by decide)
  · exact fun hn => absurd hn (by decide)
⟩
theorem bsame_places : BindOk T dsame_places := fun kV doc pm an cdv ct => ⟨fun us hl => match us, hl with
  | [_], _ => rfl, by
  refine List.forall_mem_cons.mpr ⟨?_, List.forall_mem_cons.mpr ⟨?_, List.forall_mem_cons.mpr ⟨?_, fun q hq => absurd hq List.not_mem_nil⟩⟩⟩
  · exact fun hn => absurd hn (by decide)
  · exact fun hn => absurd hn (by decide)
  · exact fun hn => absurd hn (by decide)
⟩
theorem bthing_of : BindOk T dthing_of := fun kV doc pm an cdv ct => ⟨fun us hl => match us, hl with
  | [_, _, _], _ => rfl, by
  refine List.forall_mem_cons.mpr ⟨?_, List.forall_mem_cons.mpr ⟨?_, List.forall_mem_cons.mpr ⟨?_, fun q hq => absurd hq List.not_mem_nil⟩⟩⟩
  · exact fun hn => absurd hn (by decide)
  · exact fun hn => absurd hn (by decide)
  · exact fun hn => absurd hn (by decide)
⟩
theorem bcounted : BindOk T dcounted := fun kV doc pm an cdv ct => ⟨fun us hl => match us, hl with
  | [_, _], _ => rfl, by
  refine List.forall_mem_cons.mpr ⟨?_, List.forall_mem_cons.mpr ⟨?_, List.forall_mem_cons.mpr ⟨?_, fun q hq => absurd hq List.not_mem_nil⟩⟩⟩
  · exact fun hn => absurd hn (by decide)
  · exact fun hn => absurd hn (by decide)
  · exact fun hn us ws h1 h2 => match us, ws, h1, h2 with
    | [], [_, _], _, _ => rfl
⟩
theorem bpart_of : BindOk T dpart_of := fun kV doc pm an cdv ct => ⟨fun us hl => match us, hl with
  | [_, _], _ => rfl, by
  refine List.forall_mem_cons.mpr ⟨?_, List.forall_mem_cons.mpr ⟨?_, List.forall_mem_cons.mpr ⟨?_, fun q hq => absurd hq List.not_mem_nil⟩⟩⟩
  · exact fun hn => absurd hn (by decide)
  · exact fun hn us ws h1 h2 => match us, ws, h1, h2 with
    | [], [_, _], _, _ => rfl
  · exact fun hn => absurd hn (by decide)
⟩
theorem bset_beside : BindOk T dset_beside := fun kV doc pm an cdv ct => ⟨fun us hl => match us, hl with
  | [_, _], _ => rfl, by
  refine List.forall_mem_cons.mpr ⟨?_, List.forall_mem_cons.mpr ⟨?_, List.forall_mem_cons.mpr ⟨?_, fun q hq => absurd hq List.not_mem_nil⟩⟩⟩
  · exact fun hn us ws h1 h2 => match us, ws, h1, h2 with
    | [], [_, _], _, _ => rfl
  · exact fun hn => absurd hn (by decide)
  · exact fun hn => absurd hn (by decide)
⟩
theorem b_law_feed : BindOk T d_law_feed := fun kV doc pm an cdv ct => ⟨fun us hl => match us, hl with
  | [_, _], _ => rfl, by
  refine List.forall_mem_cons.mpr ⟨?_, List.forall_mem_cons.mpr ⟨?_, List.forall_mem_cons.mpr ⟨?_, fun q hq => absurd hq List.not_mem_nil⟩⟩⟩
  · exact fun hn => absurd hn (by decide)
  · exact fun hn => absurd hn (by decide)
  · exact fun hn => absurd hn (by decide)
⟩
theorem b_law_draw : BindOk T d_law_draw := fun kV doc pm an cdv ct => ⟨fun us hl => match us, hl with
  | [_, _], _ => rfl, by
  refine List.forall_mem_cons.mpr ⟨?_, List.forall_mem_cons.mpr ⟨?_, List.forall_mem_cons.mpr ⟨?_, fun q hq => absurd hq List.not_mem_nil⟩⟩⟩
  · exact fun hn => absurd hn (by decide)
  · exact fun hn => absurd hn (by decide)
  · exact fun hn => absurd hn (by decide)
⟩
theorem b_law_one : BindOk T d_law_one := fun kV doc pm an cdv ct => ⟨fun us hl => match us, hl with
  | [_, _], _ => rfl, by
  refine List.forall_mem_cons.mpr ⟨?_, List.forall_mem_cons.mpr ⟨?_, List.forall_mem_cons.mpr ⟨?_, fun q hq => absurd hq List.not_mem_nil⟩⟩⟩
  · exact fun hn => absurd hn (by decide)
  · exact fun hn => absurd hn (by decide)
  · exact fun hn => absurd hn (by decide)
⟩
theorem b_law_same : BindOk T d_law_same := fun kV doc pm an cdv ct => ⟨fun us hl => match us, hl with
  | [_, _], _ => rfl, by
  refine List.forall_mem_cons.mpr ⟨?_, List.forall_mem_cons.mpr ⟨?_, List.forall_mem_cons.mpr ⟨?_, fun q hq => absurd hq List.not_mem_nil⟩⟩⟩
  · exact fun hn => absurd hn (by decide)
  · exact fun hn => absurd hn (by decide)
  · exact fun hn => absurd hn (by decide)
⟩
theorem b_law_mixed : BindOk T d_law_mixed := fun kV doc pm an cdv ct => ⟨fun us hl => match us, hl with
  | [_, _], _ => rfl, by
  refine List.forall_mem_cons.mpr ⟨?_, List.forall_mem_cons.mpr ⟨?_, List.forall_mem_cons.mpr ⟨?_, fun q hq => absurd hq List.not_mem_nil⟩⟩⟩
  · exact fun hn => absurd hn (by decide)
  · exact fun hn => absurd hn (by decide)
  · exact fun hn => absurd hn (by decide)
⟩
theorem b_law_turned : BindOk T d_law_turned := fun kV doc pm an cdv ct => ⟨fun us hl => match us, hl with
  | [_, _], _ => rfl, by
  refine List.forall_mem_cons.mpr ⟨?_, List.forall_mem_cons.mpr ⟨?_, List.forall_mem_cons.mpr ⟨?_, fun q hq => absurd hq List.not_mem_nil⟩⟩⟩
  · exact fun hn => absurd hn (by decide)
  · exact fun hn => absurd hn (by decide)
  · exact fun hn => absurd hn (by decide)
⟩
theorem b_law_longer : BindOk T d_law_longer := fun kV doc pm an cdv ct => ⟨fun us hl => match us, hl with
  | [_, _], _ => rfl, by
  refine List.forall_mem_cons.mpr ⟨?_, List.forall_mem_cons.mpr ⟨?_, List.forall_mem_cons.mpr ⟨?_, fun q hq => absurd hq List.not_mem_nil⟩⟩⟩
  · exact fun hn => absurd hn (by decide)
  · exact fun hn => absurd hn (by decide)
  · exact fun hn => absurd hn (by decide)
⟩
theorem b_law_turnings : BindOk T d_law_turnings := fun kV doc pm an cdv ct => ⟨fun us hl => match us, hl with
  | [_], _ => rfl, by
  refine List.forall_mem_cons.mpr ⟨?_, List.forall_mem_cons.mpr ⟨?_, List.forall_mem_cons.mpr ⟨?_, fun q hq => absurd hq List.not_mem_nil⟩⟩⟩
  · exact fun hn => absurd hn (by decide)
  · exact fun hn => absurd hn (by decide)
  · exact fun hn => absurd hn (by decide)
⟩
theorem b_law_closed : BindOk T d_law_closed := fun kV doc pm an cdv ct => ⟨fun us hl => match us, hl with
  | [_, _], _ => rfl, by
  refine List.forall_mem_cons.mpr ⟨?_, List.forall_mem_cons.mpr ⟨?_, List.forall_mem_cons.mpr ⟨?_, fun q hq => absurd hq List.not_mem_nil⟩⟩⟩
  · exact fun hn => absurd hn (by decide)
  · exact fun hn => absurd hn (by decide)
  · exact fun hn => absurd hn (by decide)
⟩
theorem b_law_group : BindOk T d_law_group := fun kV doc pm an cdv ct => ⟨fun us hl => match us, hl with
  | [_, _], _ => rfl, by
  refine List.forall_mem_cons.mpr ⟨?_, List.forall_mem_cons.mpr ⟨?_, List.forall_mem_cons.mpr ⟨?_, fun q hq => absurd hq List.not_mem_nil⟩⟩⟩
  · exact fun hn => absurd hn (by decide)
  · exact fun hn => absurd hn (by decide)
  · exact fun hn => absurd hn (by decide)
⟩
theorem b_law_least : BindOk T d_law_least := fun kV doc pm an cdv ct => ⟨fun us hl => match us, hl with
  | [_, _], _ => rfl, by
  refine List.forall_mem_cons.mpr ⟨?_, List.forall_mem_cons.mpr ⟨?_, List.forall_mem_cons.mpr ⟨?_, fun q hq => absurd hq List.not_mem_nil⟩⟩⟩
  · exact fun hn => absurd hn (by decide)
  · exact fun hn => absurd hn (by decide)
  · exact fun hn => absurd hn (by decide)
⟩
theorem b_law_kinds : BindOk T d_law_kinds := fun kV doc pm an cdv ct => ⟨fun us hl => match us, hl with
  | [_, _, _, _], _ => rfl, by
  refine List.forall_mem_cons.mpr ⟨?_, List.forall_mem_cons.mpr ⟨?_, List.forall_mem_cons.mpr ⟨?_, fun q hq => absurd hq List.not_mem_nil⟩⟩⟩
  · exact fun hn => absurd hn (by decide)
  · exact fun hn => absurd hn (by decide)
  · exact fun hn => absurd hn (by decide)
⟩
theorem b_law_unlike : BindOk T d_law_unlike := fun kV doc pm an cdv ct => ⟨fun us hl => match us, hl with
  | [_, _], _ => rfl, by
  refine List.forall_mem_cons.mpr ⟨?_, List.forall_mem_cons.mpr ⟨?_, List.forall_mem_cons.mpr ⟨?_, fun q hq => absurd hq List.not_mem_nil⟩⟩⟩
  · exact fun hn => absurd hn (by decide)
  · exact fun hn => absurd hn (by decide)
  · exact fun hn => absurd hn (by decide)
⟩
theorem b_law_below : BindOk T d_law_below := fun kV doc pm an cdv ct => ⟨fun us hl => match us, hl with
  | [_, _], _ => rfl, by
  refine List.forall_mem_cons.mpr ⟨?_, List.forall_mem_cons.mpr ⟨?_, List.forall_mem_cons.mpr ⟨?_, fun q hq => absurd hq List.not_mem_nil⟩⟩⟩
  · exact fun hn => absurd hn (by decide)
  · exact fun hn => absurd hn (by decide)
  · exact fun hn => absurd hn (by decide)
⟩
theorem b_law_great : BindOk T d_law_great := fun kV doc pm an cdv ct => ⟨fun us hl => match us, hl with
  | [_, _], _ => rfl, by
  refine List.forall_mem_cons.mpr ⟨?_, List.forall_mem_cons.mpr ⟨?_, List.forall_mem_cons.mpr ⟨?_, fun q hq => absurd hq List.not_mem_nil⟩⟩⟩
  · exact fun hn => absurd hn (by decide)
  · exact fun hn => absurd hn (by decide)
  · exact fun hn => absurd hn (by decide)
⟩
theorem b_law_right : BindOk T d_law_right := fun kV doc pm an cdv ct => ⟨fun us hl => match us, hl with
  | [_], _ => rfl, by
  refine List.forall_mem_cons.mpr ⟨?_, List.forall_mem_cons.mpr ⟨?_, List.forall_mem_cons.mpr ⟨?_, fun q hq => absurd hq List.not_mem_nil⟩⟩⟩
  · exact fun hn => absurd hn (by decide)
  · exact fun hn => absurd hn (by decide)
  · exact fun hn => absurd hn (by decide)
⟩
theorem blaw : BindOk T dlaw := fun kV doc pm an cdv ct => ⟨fun us hl => match us, hl with
  | [_], _ => rfl, by
  refine List.forall_mem_cons.mpr ⟨?_, List.forall_mem_cons.mpr ⟨?_, List.forall_mem_cons.mpr ⟨?_, fun q hq => absurd hq List.not_mem_nil⟩⟩⟩
  · exact fun hn => absurd hn (by decide)
  · exact fun hn => absurd hn (by decide)
  · exact fun hn => absurd hn (by decide)
⟩
theorem T_bind : ∀ d ∈ T.defs, BindOk T d := List.forall_mem_cons.mpr ⟨bis_integer, List.forall_mem_cons.mpr ⟨bneed_number, List.forall_mem_cons.mpr ⟨bis_row_unlike, List.forall_mem_cons.mpr ⟨bis_turning_form, List.forall_mem_cons.mpr ⟨bturned_by, List.forall_mem_cons.mpr ⟨bstill, List.forall_mem_cons.mpr ⟨bis_group_form, List.forall_mem_cons.mpr ⟨bleast_row, List.forall_mem_cons.mpr ⟨bis_many, List.forall_mem_cons.mpr ⟨bis_kind_form, List.forall_mem_cons.mpr ⟨bis_set_form, List.forall_mem_cons.mpr ⟨bneed_set, List.forall_mem_cons.mpr ⟨bneed_told_set, List.forall_mem_cons.mpr ⟨bneed_index, List.forall_mem_cons.mpr ⟨btold, List.forall_mem_cons.mpr ⟨bthings_below, List.forall_mem_cons.mpr ⟨bneed_part, List.forall_mem_cons.mpr ⟨bsame_places, List.forall_mem_cons.mpr ⟨bthing_of, List.forall_mem_cons.mpr ⟨bcounted, List.forall_mem_cons.mpr ⟨bpart_of, List.forall_mem_cons.mpr ⟨bset_beside, List.forall_mem_cons.mpr ⟨b_law_feed, List.forall_mem_cons.mpr ⟨b_law_draw, List.forall_mem_cons.mpr ⟨b_law_one, List.forall_mem_cons.mpr ⟨b_law_same, List.forall_mem_cons.mpr ⟨b_law_mixed, List.forall_mem_cons.mpr ⟨b_law_turned, List.forall_mem_cons.mpr ⟨b_law_longer, List.forall_mem_cons.mpr ⟨b_law_turnings, List.forall_mem_cons.mpr ⟨b_law_closed, List.forall_mem_cons.mpr ⟨b_law_group, List.forall_mem_cons.mpr ⟨b_law_least, List.forall_mem_cons.mpr ⟨b_law_kinds, List.forall_mem_cons.mpr ⟨b_law_unlike, List.forall_mem_cons.mpr ⟨b_law_below, List.forall_mem_cons.mpr ⟨b_law_great, List.forall_mem_cons.mpr ⟨b_law_right, List.forall_mem_cons.mpr ⟨blaw, fun q hq => absurd hq List.not_mem_nil⟩⟩⟩⟩⟩⟩⟩⟩⟩⟩⟩⟩⟩⟩⟩⟩⟩⟩⟩⟩⟩⟩⟩⟩⟩⟩⟩⟩⟩⟩⟩⟩⟩⟩⟩⟩⟩⟩⟩
-- top 56 law at 55 names ['__name__', 'RoomError', 'BadNumber', 'TooGreat', 'BadSet', 'BadIndex', 'BadNames', 'BadPart', '__name__', 'LAST_NAME', 'is_integer', 'need_number', 'is_row_unlike', 'is_turning_form', 'turned_by', 'still', '__name__', 'MOST_TURNINGS', 'is_group_form', 'least_row', 'is_many', '__name__', 'MOST_KINDS', 'is_kind_form', 'is_set_form', 'need_set', 'need_told_set', 'need_index', 'told', 'things_below', 'need_part', '__name__', 'same_places', '__name__', 'thing_of', 'counted', 'part_of', 'set_beside', '__name__', '_law_feed', '_law_draw', '_law_one', '_law_same', '_law_mixed', '_law_turned', '_law_longer', '_law_turnings', '_law_closed', '_law_group', '_law_least', '_law_kinds', '_law_unlike', '_law_below', '_law_great', '_law_right', 'law']

abbrev R : PySem.W.OpenRow := PySem.W.OpenLaw.row PySem.Challenge.rw_namerooms_k05_whole_things_counted
abbrev hk : PySem.W.Hook := hookN 5 T.fa T.fn T.exi
def ob (s : PySem.W.SharedT) : AlN := obsNG 5 T.fa T.fn T.exi (HandSHeadRun.getT s)
theorem ob_eq (s : PySem.W.SharedT) : ob s = hk.obs s.abs := obsNG_eq (HandSHeadRun.getT_eq s)
def loose : List Str := (["RoomError", "BadNumber", "TooGreat", "BadSet", "BadIndex", "BadNames", "BadPart", "LAST_NAME", "is_integer", "need_number", "is_row_unlike", "is_turning_form", "turned_by", "still", "MOST_TURNINGS", "is_group_form", "least_row", "is_many", "MOST_KINDS", "is_kind_form", "is_set_form", "need_set", "need_told_set", "need_index", "told", "things_below", "need_part", "same_places", "thing_of", "counted"] : List Str) ++ (["part_of", "set_beside", "_law_feed", "_law_draw", "_law_one", "_law_same", "_law_mixed", "_law_turned", "_law_longer", "_law_turnings", "_law_closed", "_law_group", "_law_least", "_law_kinds", "_law_unlike", "_law_below", "_law_great", "_law_right"] : List Str)
theorem run (w : World) : HandSHeadRun.RunEq R (PySem.W.view R.prog [55]) hk ob 4000 loose w := by
  intro os
  kernel_rfl
end K05

namespace K05
open PySem PySem.Spec PyProof.Rows L2 Nr
theorem keyEnc_th (i : Nat) : KeyEnc (thD i) := fun a b => by
  unfold keq
  rw [decide_eq_decide]
  constructor
  · intro h
    have h : NestedKey.tup [.num i, .tup (nkey.nkeys (a.map .int))] = .tup [.num i, .tup (nkey.nkeys (b.map .int))] := h
    have h : (a.map D.int).map nkey = (b.map D.int).map nkey := by rw [← nkeys_map, ← nkeys_map]; simpa using h
    rw [List.map_map, List.map_map] at h
    exact (List.map_inj_right (f := nkey ∘ D.int) (fun x y e => by simpa [nkey] using e)).mp h
  · rintro rfl
    rfl
theorem keyOk_th (i : Nat) (r : List Int) : keyOk true (thD i r) = true := by
  show keyN 8 (.tup [.int i, .tup (r.map .int)]) = true
  simp [keyN]
theorem uniq_app {α : Type} [DecidableEq α] (l : List α) (a : α) : uniq (l ++ [a]) = addNew (uniq l) a := by
  unfold uniq
  rw [List.foldl_append]
  rfl
def c_lbelow : Ct := fun xs L Q E => ∃ (T : List Kd) (many : Nat), xs = [sD T, .int many] ∧ SOk T ∧ T.length ≤ 10 ∧ (∀ k ∈ T, k.1 ≤ 4) ∧ many ≤ 4 ∧ Q (.int (T.map fun k => kBelow k many).sum) L
theorem falls4 : ∀ m, m ≤ 4 → ∀ j, j ≤ 6 → falls m j ≤ 24 := by decide
theorem b_lbelow {S : Specs} (h1 : Has S "_law_longer" (lv 1 c_longer)) (h2 : Has S "thing_of" (lv 8 c_thing_of)) {n : Nat} {xs : List D} {L : Hl} {Q : QE} {E : XH} (h : lv 9 c_lbelow (n + 1) xs L Q E) : xs.length = 2 ∧ bodyK (Ph S n) 10 ir_law_below xs L Q E := by
  obtain ⟨hn, T, many, rfl, hT, hTl, hT4, hm, h⟩ := h
  refine ⟨rfl, ?_⟩
  unfold bodyK ir_law_below
  simp [startD]
  show enumK (.tup (T.map kD)) _
  rw [enumK_tup, enum_map]
  refine forR_i (fun j ds L' => ∃ (a b c d e f g : Option D) (R : Hl), ds = [some (sD T), some (.int many), some (.int ((T.map fun k => kBelow k many).take j).sum), a, b, c, d, e, f, g] ∧ L' = L ++ R) _ ⟨_, _, _, _, _, _, _, [], rfl, by simp⟩ ?_ ?_
  · rintro j x ds L' hx ⟨a, b, c, d, e, f, g, R, rfl, rfl⟩
    refine ⟨trivial, fun M g2 g3 g4 g5 => ?_⟩
    obtain ⟨k, hk, rfl⟩ : ∃ k, T[j]? = some k ∧ x = .tup [.int j, kD k] := by
      rw [List.getElem?_map, List.getElem?_zipIdx] at hx
      cases q : T[j]? with
      | none => rw [q] at hx; simp at hx
      | some k => rw [q] at hx; simp at hx; exact ⟨k, rfl, hx.symm⟩
    have hkm := List.mem_of_getElem? hk
    have hok := hT.2 k hkm
    have hk4 := hT4 k hkm
    simp
    show semG _ (.tup [.int k.1, gD k.2]) _ _
    simp [setsD]
    refine ⟨by rw [sizeLine_eq]; decide, ⟨smallR_of (by omega) (by omega), smallR_of (by omega) (by omega)⟩, ?_⟩
    refine forR_i (fun i ds L' => ∃ (a b : Option D), ds = [some (sD T), some (.int many), some (.int ((T.map fun k => kBelow k many).take j).sum), some (.int j), some (.int k.1), some (gD k.2), some (.lst ((rowsOf many i).map rowD)), some (.obj (L.length + R.length)), a, b] ∧ L' = L ++ (R ++ [.dct true [] []])) _ ⟨_, _, rfl, by simp⟩ ?_ ?_
    · rintro i x ds L' hx ⟨a, b, rfl, rfl⟩
      refine ⟨trivial, fun M' k2 k3 k4 k5 => ?_⟩
      obtain ⟨hi, rfl⟩ := rngD_get hx
      simp at hi
      simp
      have f4 := falls4 many hm i (by omega)
      refine ph h1 ⟨by omega, rowsOf many i, many, i, rfl, fun r hr => rowsOf_mem.mp hr, by omega, by omega, ?_, ?_⟩
      · rw [rowsOf_len]
        have := Nat.mul_le_mul f4 hm
        omega
      · simp
        exact k2 _ _ ⟨_, _, rfl, rfl⟩
    · rintro ds L' ⟨a, b, rfl, rfl⟩
      refine ⟨trivial, ?_⟩
      have hl : (rngD 0 (k.1 : Int)).length = k.1 := by simp [rngD]
      rw [hl]
      simp
      have en : ∀ (ks vs : List D), (L ++ (R ++ [O.dct true ks vs]))[L.length + R.length]? = some (.dct true ks vs) := fun ks vs => by
        rw [← List.append_assoc, List.getElem?_append_right (by simp)]
        simp
      have f4 := falls4 many hm k.1 (by omega)
      have hrl := rowsOf_len many k.1
      obtain ⟨LS, hLS⟩ : ∃ LS, (rowsOf many k.1).map (fun r => leastR k.2 (cst r)) = LS := ⟨_, rfl⟩
      have hLl : LS.length = (rowsOf many k.1).length := by rw [← hLS, List.length_map]
      refine forR_i (fun i ds L' => ∃ (a b : Option D) (vs : List D), vs.length = (uniq (LS.take i)).length ∧ ds = [some (sD T), some (.int many), some (.int ((T.map fun k => kBelow k many).take j).sum), some (.int j), some (.int k.1), some (gD k.2), some (.lst ((rowsOf many k.1).map rowD)), some (.obj (L.length + R.length)), a, b] ∧ L' = L ++ (R ++ [.dct true ((uniq (LS.take i)).map (thD j)) vs])) _ ⟨_, _, [], rfl, rfl, by simp [uniq]⟩ ?_ ?_
      · rintro i x ds L' hx ⟨a, b, vs, hv, rfl, rfl⟩
        refine ⟨trivial, fun M' k2 k3 k4 k5 => ?_⟩
        obtain ⟨r, hri, rfl⟩ : ∃ r, (rowsOf many k.1)[i]? = some r ∧ x = rowD r := by
          rw [List.getElem?_map] at hx
          cases q : (rowsOf many k.1)[i]? with
          | none => rw [q] at hx; cases hx
          | some r => rw [q] at hx; cases hx; exact ⟨r, rfl, rfl⟩
        obtain ⟨r1, r2, r3⟩ := rowsOf_mem.mp (List.mem_of_getElem? hri)
        simp
        refine ph h2 ⟨by omega, T, j, k, cst r, by rw [rowD_I]; rfl, hT, hk, ⟨by simp [cst, r1], ?_, fun x hx => ?_⟩, ?_⟩
        · exact nodup_map (fun x _ y _ e => by omega) r2
        · obtain ⟨y, hy, rfl⟩ := List.mem_map.mp hx
          have := r3 y hy
          omega
        · simp
          have hil := (List.getElem?_eq_some_iff.mp hri).1
          have hul := (uniq_len (LS.take i)).1
          rw [List.length_take] at hul
          have hat : LS[i]? = some (leastR k.2 (cst r)) := by rw [← hLS, List.getElem?_map, hri]; rfl
          refine setd_at (en _ _) (keyOk_th _ _) (by rw [List.length_map, sizeLine_eq]; omega) ?_
          have et : uniq (LS.take (i + 1)) = addNew (uniq (LS.take i)) (leastR k.2 (cst r)) := by
            rw [List.take_add_one, hat]
            exact uniq_app _ _
          rw [dputK_enc (keyEnc_th j), ← et]
          refine k2 _ _ ⟨a, some (rowD r), dputV ((uniq (LS.take i)).map (thD j)) vs (thD j (leastR k.2 (cst r))) (.bl true), ?_, rfl, ?_⟩
          · rw [dputV_len _ _ _ _ (by simpa using hv.symm), dputK_enc (keyEnc_th j), List.length_map, ← et]
          · rw [← List.append_assoc, List.set_append_right _ _ (by simp)]
            simp
      · rintro ds L' ⟨a, b, vs, hv, rfl, rfl⟩
        refine ⟨trivial, ?_⟩
        simp
        rw [ln_objd (en _ _)]
        simp
        have es : ((T.map fun k => kBelow k many).take (j + 1)).sum = ((T.map fun k => kBelow k many).take j).sum + ((uniq (LS.take (rowsOf many k.1).length)).length : Nat) := by
          have := kBelow_orbits hok.2 many
          rw [hLS] at this
          rw [List.take_add_one, List.getElem?_map, hk, ← hLl, List.take_length]
          simp [this]
        rw [← es]
        exact g2 _ _ ⟨_, _, _, _, _, _, _, _, rfl, rfl⟩
  · rintro ds L' ⟨a, b, c, d, e, f, g, R, rfl, rfl⟩
    refine ⟨trivial, ?_⟩
    simp
    rw [List.take_of_length_le (by simp)]
    exact fin_cut0 rfl h
def c_lgreat : Ct := fun xs L Q E => ∃ (T : List Kd) (many : Int), xs = [sD T, .int many] ∧ SOk T ∧ 10 ≤ many ∧ many ≤ 999999 ∧ Q (.int (T.map fun k => kBelow k many).sum) L
theorem b_lgreat {Φ : Phi} {n : Nat} {xs : List D} {L : Hl} {Q : QE} {E : XH} (h : lv 1 c_lgreat n xs L Q E) : xs.length = 2 ∧ bodyK Φ 7 ir_law_great xs L Q E := by
  obtain ⟨hn, T, many, rfl, hT, h0, h1, h⟩ := h
  refine ⟨rfl, ?_⟩
  have hTl := hT.1
  unfold bodyK ir_law_great
  simp [startD]
  show srcK _ (.tup (T.map kD)) _
  rw [sr_tup]
  simp
  refine forR_i (fun j ds L' => ∃ (a b c d : Option D), ds = [some (sD T), some (.int many), some (.int ((T.map fun k => kBelow k many).take j).sum), a, b, c, d] ∧ L' = L) _ ⟨_, _, _, _, rfl, rfl⟩ ?_ ?_
  · rintro j x ds L' hx ⟨a, b, c, d, rfl, rfl⟩
    refine ⟨trivial, fun M g2 g3 g4 g5 => ?_⟩
    obtain ⟨k, hk, rfl⟩ : ∃ k, T[j]? = some k ∧ x = kD k := by
      rw [List.getElem?_map] at hx
      cases q : T[j]? with
      | none => rw [q] at hx; simp at hx
      | some k => rw [q] at hx; simp at hx; exact ⟨k, rfl, hx.symm⟩
    have hok := hT.2 k (List.mem_of_getElem? hk)
    have hk6 := hok.1
    show semG _ (.tup [.int k.1, gD k.2]) _ _
    simp
    refine ⟨⟨smallR_of (by omega) (by omega), smallR_of (by omega) (by omega)⟩, ?_⟩
    refine forR_i (fun i ds L'' => ∃ (d : Option D), ds = [some (sD T), some (.int many), some (.int ((T.map fun k => kBelow k many).take j).sum), some (.int k.1), some (gD k.2), some (.int (pbelow many i)), d] ∧ L'' = L') _ ⟨_, rfl, rfl⟩ ?_ ?_
    · rintro i x ds L'' hx ⟨d, rfl, rfl⟩
      refine ⟨trivial, fun M' k2 k3 k4 k5 => ?_⟩
      obtain ⟨hi, rfl⟩ := rngD_get hx
      simp at hi
      simp
      refine ⟨mul_smallR (by omega) (by omega), k2 _ _ ⟨some (.int i), ?_, rfl⟩⟩
      rw [pbelow, Int.max_eq_right (by omega)]
    · rintro ds L'' ⟨d, rfl, rfl⟩
      refine ⟨trivial, ?_⟩
      have hl : (rngD 0 (k.1 : Int)).length = k.1 := by simp [rngD]
      rw [hl]
      simp
      show lenK _ (.tup (k.2.map rowD)) _
      rw [ln_tup]
      simp
      have hne := hok.2.ne
      have hle := hok.2.len
      refine ⟨div_okm (by omega) (Int.lt_of_le_of_lt (show (k.2.length : Int) ≤ 120 by omega) (by decide)), ?_⟩
      have es : ((T.map fun k => kBelow k many).take (j + 1)).sum = ((T.map fun k => kBelow k many).take j).sum + pbelow many k.1 / k.2.length := by
        rw [List.take_add_one, List.getElem?_map, hk]
        simp [kBelow]
      rw [← es]
      exact g2 _ _ ⟨_, _, _, _, rfl, rfl⟩
  · rintro ds L' ⟨a, b, c, d, rfl, rfl⟩
    refine ⟨trivial, ?_⟩
    simp
    rw [List.take_of_length_le (by simp)]
    exact fin_same h
end K05

namespace K05
open PySem PySem.Spec PyProof.Rows L2 Nr
theorem use_counted {S : Specs} (h1 : Has S "counted" (lv 8 c_counted)) {n : Nat} (hn : 8 ≤ n) {T : List Kd} (hT : SOk T) {many : Int} (h0 : 0 ≤ many) (hm : many ≤ 999999) {L : Hl} {Q : QE} {E : XH} (q : Q (.int (T.map fun k => kBelow k many).sum) L) : Ph S n "counted" [sD T, .int many] L Q E :=
  ph h1 ⟨hn, T, many, rfl, hT, h0, hm, q⟩
theorem use_same {S : Specs} (h1 : Has S "_law_same" c_same) {n k : Nat} {x y : D} (e : x = y) (hg : gd k x = true) (hk : k ≤ n) {L : Hl} {Q : QE} {E : XH} (q : Q (.bl true) L) : Ph S n "_law_same" [x, y] L Q E := by
  subst e
  exact ph h1 ⟨x, rfl, gd_mono hk hg, q⟩
theorem gd_mr (p : Nat × List Nat) (h : p.2.length ≤ 1000) (n : Nat) : gd (n + 3) (mrD p) = true := by
  show gd (n + 3) (.tup [.int p.1, rowD p.2]) = true
  rw [gd]
  simp only [List.all_cons, List.all_nil, Bool.and_true, Bool.and_eq_true, decide_eq_true_eq]
  exact ⟨by simp [sizeLine_eq], rfl, gd_row _ n h⟩
theorem gd_map {M : List (Nat × List Nat)} (hl : M.length ≤ 1000) (h : ∀ p ∈ M, p.2.length ≤ 1000) (n : Nat) : gd (n + 4) (mapD M) = true := by
  show gd (n + 4) (.tup (M.map mrD)) = true
  simp only [gd, Bool.and_eq_true, decide_eq_true_eq, List.all_eq_true]
  refine ⟨by rw [List.length_map, sizeLine_eq]; omega, fun x hx => ?_⟩
  obtain ⟨p, hp, rfl⟩ := List.mem_map.mp hx
  exact gd_mr p (h p hp) n
theorem noB_gD (G : List (List Nat)) (n : Nat) : noB (n + 2) (gD G) = true := by
  show noB (n + 2) (.tup (G.map rowD)) = true
  rw [noB, noBs_all, List.all_map, List.all_eq_true]
  exact fun t _ => noB_row t n
theorem noB_kD (k : Kd) (n : Nat) : noB (n + 3) (kD k) = true := by
  show noB (n + 3) (.tup [.int k.1, gD k.2]) = true
  rw [noB, noBs_all]
  simp [noB_gD, noB]
theorem noB_sD (T : List Kd) (n : Nat) : noB (n + 4) (sD T) = true := by
  show noB (n + 4) (.tup (T.map kD)) = true
  rw [noB, noBs_all, List.all_map, List.all_eq_true]
  exact fun k _ => noB_kD k n
theorem gd_two {n : Nat} {x y : D} (h : gd n x = true) (g : gd n y = true) : gd (n + 1) (.tup [x, y]) = true := by
  simp [gd, h, g, sizeLine_eq]
theorem gd_three {n : Nat} {x y z : D} (h : gd n x = true) (g : gd n y = true) (f : gd n z = true) : gd (n + 1) (.tup [x, y, z]) = true := by
  simp [gd, h, g, f, sizeLine_eq]
theorem gd_int (n : Nat) (i : Int) : gd (n + 1) (.int i) = true := rfl
theorem set_id {L : Hl} {i : Nat} {o : O} (h : L[i]? = some o) : L.set i o = L := by
  refine List.ext_getElem? fun j => ?_
  by_cases hj : i = j
  · subst hj
    rw [List.getElem?_set_self (List.getElem?_eq_some_iff.mp h).1, h]
  · rw [List.getElem?_set_ne hj]
theorem b_right {S : Specs} (hd : Has S "_law_draw" (lv 1 c_draw)) (hk : Has S "_law_kinds" (lv 4 c_lkinds)) (hsm : Has S "_law_same" c_same) (hb : Has S "_law_below" (lv 9 c_lbelow)) (hg : Has S "_law_great" (lv 1 c_lgreat))
    (h1 : Has S "counted" (lv 8 c_counted)) (h2 : Has S "set_beside" (lv 8 c_set_beside)) (h3 : Has S "part_of" (lv 8 c_part_of)) {n : Nat} {xs : List D} {L : Hl} {Q : QE} {E : XH} (h : lv 10 (c_rightK 60) (n + 1) xs L Q E) : xs.length = 1 ∧ bodyK (Ph S n) 16 ir_law_right xs L Q E := by
  obtain ⟨hn, i, B, rfl, hf, hB, h⟩ := h
  refine ⟨rfl, ?_⟩
  have hi := feed_lt hf
  obtain ⟨o00, ho0, hF0, _⟩ := id hf
  have sz : ∀ k : Nat, k ≤ 100 → k ≤ sizeLine := fun k hk => by rw [sizeLine_eq]; omega
  unfold bodyK
  obtain ⟨R, hR⟩ : ∃ R, dropS 4 ir_law_right = R := ⟨_, rfl⟩
  refine seg 4 hR ?_
  simp [startD, takeS, ir_law_right]
  refine ph hd ⟨by omega, i, B, 5, rfl, hf, ⟨by decide, by decide⟩, fun r o1 r0 r1 hF1 => ?_⟩
  obtain ⟨c, rfl⟩ : ∃ c : Nat, r = c := ⟨r.toNat, by omega⟩
  have f1 : feedAt (L.set i o1) i (B + 1) := feed_set hf hF1 (by omega)
  try dsimp only
  refine ph hk ⟨by omega, i, c, 4, 0, _, rfl, f1, by omega, by omega, by omega, by omega, fun T o2 hT hTl hTk hF2 => ?_⟩
  rw [List.set_set]
  have f2 : feedAt (L.set i o2) i (B + 1 + 4 * c) := feed_set hf hF2 (by omega)
  try dsimp only
  refine ph hd ⟨by omega, i, _, 3, rfl, f2, ⟨by decide, by decide⟩, fun r o3 r0 r1 hF3 => ?_⟩
  obtain ⟨d, rfl⟩ : ∃ d : Nat, r = d := ⟨r.toNat, by omega⟩
  rw [List.set_set]
  have f3 : feedAt (L.set i o3) i (B + 1 + 4 * c + 1) := feed_set hf hF3 (by omega)
  try dsimp only
  refine ph hk ⟨by omega, i, d, 3, 0, _, rfl, f3, by omega, by omega, by omega, by omega, fun U o4 hU hUl hUk hF4 => ?_⟩
  rw [List.set_set]
  have f4 : feedAt (L.set i o4) i (B + 1 + 4 * c + 1 + 4 * d) := feed_set hf hF4 (by omega)
  try dsimp only
  refine ph hd ⟨by omega, i, _, 5, rfl, f4, ⟨by decide, by decide⟩, fun r o5 r0 r1 hF5 => ?_⟩
  obtain ⟨m, rfl⟩ : ∃ m : Nat, r = m := ⟨r.toNat, by omega⟩
  rw [List.set_set]
  have f5 : feedAt (L.set i o5) i (B + 1 + 4 * c + 1 + 4 * d + 1) := feed_set hf hF5 (by omega)
  try dsimp only
  refine ph hd ⟨by omega, i, _, 999990, rfl, f5, ⟨by decide, by decide⟩, fun g o6 g0 g1 hF6 => ?_⟩
  rw [List.set_set]
  have f6 : feedAt (L.set i o6) i (B + 1 + 4 * c + 1 + 4 * d + 1 + 1) := feed_set hf hF6 (by omega)
  have hT4 : ∀ k ∈ T, k.1 ≤ 4 := fun k hk => (hTk k hk).2
  have hU4 : ∀ k ∈ U, k.1 ≤ 4 := fun k hk => Nat.le_trans (hUk k hk).2 (by decide)
  simp [setsD]
  refine ph hb ⟨by omega, T, m, rfl, hT, by omega, hT4, by omega, ?_⟩
  try dsimp only
  refine ph hb ⟨by omega, U, m, rfl, hU, by omega, hU4, by omega, ?_⟩
  subst hR
  obtain ⟨R, hR⟩ : ∃ R, dropS 3 (dropS 4 ir_law_right) = R := ⟨_, rfl⟩
  refine seg 3 hR ?_
  simp [takeS, dropS, ir_law_right, permD, IEs.len]
  refine use_counted h1 (by omega) hT (by omega) (by omega) ?_
  try dsimp only
  refine use_counted h1 (by omega) hU (by omega) (by omega) ?_
  refine ⟨sz _ (by omega), ?_⟩
  try dsimp only
  refine use_same hsm rfl (k := 2) (gd_lst2 (gd_int 0 _) (gd_int 0 _)) (by omega) ?_
  simp
  refine use_counted h1 (by omega) hT (by omega) (by omega) ?_
  try dsimp only
  refine ph hg ⟨by omega, T, _, rfl, hT, by omega, by omega, ?_⟩
  try dsimp only
  refine use_same hsm rfl (k := 1) (gd_int 0 _) (by omega) ?_
  simp
  have hTU : SOk (T ++ U) := ⟨by simp; omega, fun k hk => (List.mem_append.mp hk).elim (hT.2 k) (hU.2 k)⟩
  refine ph h2 ⟨by omega, T, U, rfl, hT, hU, by omega, ?_⟩
  generalize hFst : (T.zipIdx.map fun p => (p.2, List.range p.1.1)) = Fst
  generalize hLst : (U.zipIdx.map fun p => (T.length + p.2, List.range p.1.1)) = Lst
  have gF : gd 4 (mapD Fst) = true := gd_map (by rw [← hFst]; simp; omega) (fun p hp => by
    rw [← hFst] at hp
    obtain ⟨q, hq, rfl⟩ := List.mem_map.mp hp
    have hk : q.1 ∈ T := (List.mem_zipIdx' hq).2 ▸ List.getElem_mem _
    have := hT4 _ hk
    simp
    omega) 0
  have gL : gd 4 (mapD Lst) = true := gd_map (by rw [← hLst]; simp; omega) (fun p hp => by
    rw [← hLst] at hp
    obtain ⟨q, hq, rfl⟩ := List.mem_map.mp hp
    have hk : q.1 ∈ U := (List.mem_zipIdx' hq).2 ▸ List.getElem_mem _
    have := hU4 _ hk
    simp
    omega) 0
  simp
  subst hR
  obtain ⟨R, hR⟩ : ∃ R, dropS 2 (dropS 3 (dropS 4 ir_law_right)) = R := ⟨_, rfl⟩
  refine seg 2 hR ?_
  simp [takeS, dropS, ir_law_right, permD, IEs.len]
  show binK .add _ (.tup (T.map kD)) (.tup (U.map kD)) _
  rw [b_addt]
  refine ⟨by simp; rw [sizeLine_eq]; omega, ?_⟩
  rw [← List.map_append]
  refine c_ned (noB_sD _ 56) (noB_sD _ 56) True (by simp only [iff_true]; rfl) ?_
  simp
  refine use_counted h1 (by omega) hTU (by omega) (by omega) ?_
  try dsimp only
  refine use_same hsm (by simp) (k := 1) (gd_int 0 _) (by omega) ?_
  simp
  show lenK _ (.tup (T.map kD)) _
  rw [ln_tup]
  simp
  refine ⟨⟨smallR_of (by omega) (by omega), smallR_of (by omega) (by omega)⟩, ?_⟩
  refine lcR_i (fun k acc L' => ∃ (o : O) (p : List Nat), Fd (B + 1 + 4 * c + 1 + 4 * d + 1 + 1 + k) o ∧ L' = L.set i o ∧ acc = ts p ∧ p.length ≤ k ∧ p.Pairwise (· < ·) ∧ ∀ x ∈ p, x < k) _ ⟨o6, [], by simpa using hF6, rfl, rfl, Nat.le_refl _, .nil, by simp⟩ ?_ ?_
  · rintro k x acc L' hx ⟨o, p, hF, rfl, rfl, hpl, hpa, hpb⟩
    obtain ⟨hk, rfl⟩ := rngD_get hx
    simp at hk
    refine ⟨trivial, by simp [ts]; rw [sizeLine_eq]; omega, fun kk k1 k2 => ?_⟩
    simp [wipeD]
    have fk : feedAt (L.set i o) i (B + 1 + 4 * c + 1 + 4 * d + 1 + 1 + k) := feed_set hf hF (by omega)
    refine ph hd ⟨by omega, i, _, 2, rfl, fk, ⟨by decide, by decide⟩, fun r o' r0 r1 hF' => ?_⟩
    rw [List.set_set]
    have hF' : Fd (B + 1 + 4 * c + 1 + 4 * d + 1 + 1 + ((k + 1 : Nat) : Int)) o' := by
      rw [show B + 1 + 4 * (c : Int) + 1 + 4 * d + 1 + 1 + ((k + 1 : Nat) : Int) = B + 1 + 4 * c + 1 + 4 * d + 1 + 1 + k + 1 by omega]
      exact hF'
    simp
    by_cases hr : r = 0
    · rw [if_pos hr]
      refine k1 _ _ ⟨o', p ++ [k], hF', rfl, by simp [ts, nd], by simp; omega, ?_, fun x hx => ?_⟩
      · rw [List.pairwise_append]
        exact ⟨hpa, by simp, fun a ha b hb => by simp at hb; subst hb; exact hpb a ha⟩
      · rcases List.mem_append.mp hx with q | q
        · have := hpb x q; omega
        · simp at q; omega
    · rw [if_neg hr]
      exact k2 _ ⟨o', p, hF', rfl, rfl, by omega, hpa, fun x hx => by have := hpb x hx; omega⟩
  rintro acc L' ⟨o7, p, hF7, rfl, rfl, hpl, hpa, hpb⟩
  have hrl : (rngD 0 (T.length : Int)).length = T.length := by simp [rngD]
  rw [hrl] at hF7 hpl hpb
  refine ⟨trivial, ?_⟩
  have hp : Part T.length p := ⟨hpa, hpb⟩
  subst hR
  obtain ⟨R, hR⟩ : ∃ R, dropS 1 (dropS 2 (dropS 3 (dropS 4 ir_law_right))) = R := ⟨_, rfl⟩
  refine seg 1 hR ?_
  simp [takeS, dropS, ir_law_right, permD, IEs.len]
  refine ph h3 ⟨by omega, T, p, rfl, hT, hp, ?_⟩
  have at_ : ∀ i ∈ p, (T.map kD)[i]? = some (kD (T.getD i (0, []))) := fun i hi => by
    have := hpb i hi
    simp [this]
  have ok_ : ∀ i ∈ p, KOk (T.getD i (0, [])) := fun i hi => by
    have := hpb i hi
    have := hT.2 T[i] (List.getElem_mem this)
    simpa [hpb i hi] using this
  generalize hW : p.map (fun i => T.getD i (0, [])) = W
  generalize hV : p.map (fun i => (i, List.range (T.getD i (0, [])).1)) = V
  have gW : gd 5 (sD W) = true := gd_sD ⟨by rw [← hW]; simp; omega, fun k hk => by
    rw [← hW] at hk
    obtain ⟨i, hi, rfl⟩ := List.mem_map.mp hk
    exact ok_ i hi⟩ 0
  have gV : gd 4 (mapD V) = true := gd_map (by rw [← hV]; simp; omega) (fun q hq => by
    rw [← hV] at hq
    obtain ⟨i, hi, rfl⟩ := List.mem_map.mp hq
    have := (ok_ i hi).1
    simp at this ⊢
    omega) 0
  simp
  subst hR
  obtain ⟨R, hR⟩ : ∃ R, dropS 1 (dropS 1 (dropS 2 (dropS 3 (dropS 4 ir_law_right)))) = R := ⟨_, rfl⟩
  refine seg 1 hR ?_
  simp [takeS, dropS, ir_law_right, permD, IEs.len]
  refine lcR_m (enc := nd) (f := fun i => kD (T.getD i (0, []))) p (show Src.ok (.fixed _) _ from trivial) (by rw [sizeLine_eq]; omega) (fun j hj kk hkk => ?_) ?_
  · simp [wipeD]
    show idxK _ (.tup (T.map kD)) (.int j) _
    rw [Nr.ix_tup]
    exact ⟨_, by rw [atN]; exact at_ j hj, hkk⟩
  have eW : (D.tup (p.map fun i => kD (T.getD i (0, [])))) = sD W := by
    rw [← hW]
    simp [sD, Function.comp_def]
  rw [eW]
  refine c_ned (noB_sD _ 56) (noB_sD _ 56) True (by simp) ?_
  simp
  refine ph h3 ⟨by omega, T, p, rfl, hT, hp, ?_⟩
  rw [hW, hV]
  refine ⟨sz _ (by omega), ?_⟩
  refine use_same hsm rfl (k := 6) (gd_two (gd_mono (by decide) gW) (gd_mono (by decide) gV)) (by omega) ?_
  simp
  subst hR
  obtain ⟨R, hR⟩ : ∃ R, dropS 2 (dropS 1 (dropS 1 (dropS 2 (dropS 3 (dropS 4 ir_law_right))))) = R := ⟨_, rfl⟩
  refine seg 2 hR ?_
  simp [takeS, dropS, ir_law_right, permD, IEs.len]
  show zipK (.tup (ts p)) (.tup (W.map kD)) _
  rw [zipK_tup]
  have ez : zipD (ts p) (W.map kD) = p.map fun i => .tup [nd i, kD (T.getD i (0, []))] := by
    rw [← hW, List.map_map]
    unfold ts
    clear hW hV eW gW gV at_ ok_ hp hpa hpb hpl
    induction p with
    | nil => rfl
    | cons a p ih => simp only [List.map_cons, zipD, ih]; rfl
  rw [ez]
  refine lcR_m (enc := fun i => D.tup [nd i, kD (T.getD i (0, []))]) (f := fun i => mrD (i, List.range (T.getD i (0, [])).1)) p (show Src.ok (.fixed _) _ from trivial) (by rw [sizeLine_eq]; omega) (fun j hj kk hkk => ?_) ?_
  · simp [wipeD]
    show idxK _ (.tup [.int (T.getD j (0, [])).1, gD (T.getD j (0, [])).2]) _ _
    simp
    refine ⟨by unfold RgOk; simp; have := (ok_ j hj).1; simp at this; omega, by rw [sizeLine_eq]; decide, ?_⟩
    rw [rng0]
    exact hkk
  have eV : (D.tup (p.map fun i => mrD (i, List.range (T.getD i (0, [])).1))) = mapD V := by
    rw [← hV]
    simp [mapD, Function.comp_def]
  simp
  rw [show (D.tup (p.map fun i => mrD (i, List.range (T[i]?.getD (0, [])).1))) = mapD V from by rw [← eV]; simp]
  refine use_same hsm rfl (k := 4) gV (by omega) ?_
  simp
  refine ph h2 ⟨by omega, T, U, rfl, hT, hU, by omega, ?_⟩
  rw [hFst, hLst]
  refine ⟨sz _ (by omega), ?_⟩
  have gTU : gd 5 (sD (T ++ U)) = true := gd_sD hTU 0
  refine use_same hsm rfl (k := 6) (gd_three gTU (gd_mono (by decide) gF) (gd_mono (by decide) gL)) (by omega) ?_
  simp
  subst hR
  simp [dropS, ir_law_right]
  show enumK (.tup (T.map kD)) _
  rw [enumK_tup, enum_map]
  refine lcR_m (enc := fun p : Kd × Nat => D.tup [.int p.2, kD p.1]) (f := fun p => mrD (p.2, List.range p.1.1)) T.zipIdx (show Src.ok (.fixed _) _ from trivial) (by simp; rw [sizeLine_eq]; omega) (fun q hq kk hkk => ?_) ?_
  · simp [wipeD]
    show idxK _ (.tup [.int q.1.1, gD q.1.2]) _ _
    simp
    have hk : q.1 ∈ T := (List.mem_zipIdx' hq).2 ▸ List.getElem_mem _
    have := hT4 _ hk
    refine ⟨by unfold RgOk; simp; omega, by rw [sizeLine_eq]; decide, ?_⟩
    rw [rng0]
    exact hkk
  rw [show (D.tup (T.zipIdx.map fun p => mrD (p.2, List.range p.1.1))) = mapD Fst from by rw [← hFst]; simp [mapD, Function.comp_def]]
  refine ⟨sz _ (by omega), lst_at (xs := [mapD Fst]) (by simp), ?_⟩
  show enumK (.tup (U.map kD)) _
  rw [enumK_tup, enum_map]
  refine lcR_m (enc := fun p : Kd × Nat => D.tup [.int p.2, kD p.1]) (f := fun p => mrD (T.length + p.2, List.range p.1.1)) U.zipIdx (show Src.ok (.fixed _) _ from trivial) (by simp; rw [sizeLine_eq]; omega) (fun q hq kk hkk => ?_) ?_
  · simp [wipeD]
    show lenK _ (.tup (T.map kD)) _
    rw [ln_tup]
    simp
    show idxK _ (.tup [.int q.1.1, gD q.1.2]) _ _
    simp
    have hk : q.1 ∈ U := (List.mem_zipIdx' hq).2 ▸ List.getElem_mem _
    have := hU4 _ hk
    refine ⟨by unfold RgOk; simp; omega, by rw [sizeLine_eq]; decide, ?_⟩
    rw [rng0]
    have : mrD (T.length + q.2, List.range q.1.1) = .tup [.int ((T.length : Int) + q.2), .tup ((List.range q.1.1).map fun i : Nat => .int i)] := by
      show D.tup [.int ((T.length + q.2 : Nat) : Int), _] = _
      rw [Int.natCast_add]
      rfl
    rw [this] at hkk
    exact hkk
  rw [show (D.tup (U.zipIdx.map fun p => mrD (T.length + p.2, List.range p.1.1))) = mapD Lst from by rw [← hLst]; simp [mapD, Function.comp_def]]
  have eN : (L.set i o7 ++ [O.lst [mapD Fst]])[(L.set i o7).length]? = some (.lst [mapD Fst]) := by simp
  refine ⟨[mapD Fst], eN, by simp [sizeLine_eq], ?_⟩
  have eS : (L.set i o7 ++ [O.lst [mapD Fst]]).set (L.set i o7).length (.lst ([mapD Fst] ++ [mapD Lst])) = L.set i o7 ++ [O.lst [mapD Fst, mapD Lst]] := by
    rw [List.set_append_right _ _ (by simp)]
    simp
  rw [eS]
  refine ⟨sz _ (by omega), ?_⟩
  have eN2 : (L.set i o7 ++ [O.lst [mapD Fst, mapD Lst]])[(L.set i o7).length]? = some (.lst [mapD Fst, mapD Lst]) := by simp
  rw [give_lst eN2]
  refine use_same hsm rfl (k := 5) (gd_lst2 gF gL) (by omega) ?_
  rw [List.set_append_right _ _ (by simp)]
  exact fin_cut rfl hF7.nonum (h _ (hF7.mono (by omega)))
end K05

namespace K05
open PySem PySem.Spec PyProof.Rows L2 Nr
def specs : Specs := ("is_integer", lv 1 c_is_integer) :: ("need_number", lv 2 c_need_number) :: ("is_row_unlike", lv 2 c_is_row_unlike) :: ("is_turning_form", lv 3 c_is_turning_form) :: ("turned_by", lv 1 c_turned_by) :: ("still", lv 1 c_still) :: ("is_group_form", lv 4 c_is_group_form) :: ("least_row", lv 2 c_least_row) :: ("is_many", lv 2 c_is_many) :: ("is_kind_form", lv 5 c_is_kind_form) :: ("is_set_form", lv 6 c_is_set_form) :: ("need_set", lv 7 c_need_set) :: ("need_told_set", lv 1 c_need_told_set) :: ("need_index", lv 2 c_need_index) :: ("told", lv 3 c_told) :: ("things_below", lv 1 c_things_below) :: ("need_part", lv 2 c_need_part) :: ("same_places", lv 1 c_same_places) :: ("thing_of", lv 8 c_thing_of) :: ("counted", lv 8 c_counted) :: ("part_of", lv 8 c_part_of) :: ("set_beside", lv 8 c_set_beside) :: ("_law_feed", lv 1 c_feed) :: ("_law_draw", lv 1 c_draw) :: ("_law_one", lv 2 c_one) :: ("_law_same", c_same) :: ("_law_turned", lv 1 c_turned_by) :: ("_law_longer", lv 1 c_longer) :: ("_law_turnings", lv 2 c_turnings) :: ("_law_closed", lv 2 c_closed) :: ("_law_group", lv 3 c_lgroup) :: ("_law_kinds", lv 4 c_lkinds) :: ("_law_below", lv 9 c_lbelow) :: ("_law_great", lv 1 c_lgreat) :: ("_law_right", lv 10 (c_rightK 60)) :: ("law", lv 11 c_law) :: []
theorem his_integer : Has specs "is_integer" (lv 1 c_is_integer) := .head _
theorem hneed_number : Has specs "need_number" (lv 2 c_need_number) := .tail _ (.head _)
theorem his_row_unlike : Has specs "is_row_unlike" (lv 2 c_is_row_unlike) := .tail _ (.tail _ (.head _))
theorem his_turning_form : Has specs "is_turning_form" (lv 3 c_is_turning_form) := .tail _ (.tail _ (.tail _ (.head _)))
theorem hturned_by : Has specs "turned_by" (lv 1 c_turned_by) := .tail _ (.tail _ (.tail _ (.tail _ (.head _))))
theorem hstill : Has specs "still" (lv 1 c_still) := .tail _ (.tail _ (.tail _ (.tail _ (.tail _ (.head _)))))
theorem his_group_form : Has specs "is_group_form" (lv 4 c_is_group_form) := .tail _ (.tail _ (.tail _ (.tail _ (.tail _ (.tail _ (.head _))))))
theorem hleast_row : Has specs "least_row" (lv 2 c_least_row) := .tail _ (.tail _ (.tail _ (.tail _ (.tail _ (.tail _ (.tail _ (.head _)))))))
theorem his_many : Has specs "is_many" (lv 2 c_is_many) := .tail _ (.tail _ (.tail _ (.tail _ (.tail _ (.tail _ (.tail _ (.tail _ (.head _))))))))
theorem his_kind_form : Has specs "is_kind_form" (lv 5 c_is_kind_form) := .tail _ (.tail _ (.tail _ (.tail _ (.tail _ (.tail _ (.tail _ (.tail _ (.tail _ (.head _)))))))))
theorem his_set_form : Has specs "is_set_form" (lv 6 c_is_set_form) := .tail _ (.tail _ (.tail _ (.tail _ (.tail _ (.tail _ (.tail _ (.tail _ (.tail _ (.tail _ (.head _))))))))))
theorem hneed_set : Has specs "need_set" (lv 7 c_need_set) := .tail _ (.tail _ (.tail _ (.tail _ (.tail _ (.tail _ (.tail _ (.tail _ (.tail _ (.tail _ (.tail _ (.head _)))))))))))
theorem hneed_told_set : Has specs "need_told_set" (lv 1 c_need_told_set) := .tail _ (.tail _ (.tail _ (.tail _ (.tail _ (.tail _ (.tail _ (.tail _ (.tail _ (.tail _ (.tail _ (.tail _ (.head _))))))))))))
theorem hneed_index : Has specs "need_index" (lv 2 c_need_index) := .tail _ (.tail _ (.tail _ (.tail _ (.tail _ (.tail _ (.tail _ (.tail _ (.tail _ (.tail _ (.tail _ (.tail _ (.tail _ (.head _)))))))))))))
theorem htold : Has specs "told" (lv 3 c_told) := .tail _ (.tail _ (.tail _ (.tail _ (.tail _ (.tail _ (.tail _ (.tail _ (.tail _ (.tail _ (.tail _ (.tail _ (.tail _ (.tail _ (.head _))))))))))))))
theorem hthings_below : Has specs "things_below" (lv 1 c_things_below) := .tail _ (.tail _ (.tail _ (.tail _ (.tail _ (.tail _ (.tail _ (.tail _ (.tail _ (.tail _ (.tail _ (.tail _ (.tail _ (.tail _ (.tail _ (.head _)))))))))))))))
theorem hneed_part : Has specs "need_part" (lv 2 c_need_part) := .tail _ (.tail _ (.tail _ (.tail _ (.tail _ (.tail _ (.tail _ (.tail _ (.tail _ (.tail _ (.tail _ (.tail _ (.tail _ (.tail _ (.tail _ (.tail _ (.head _))))))))))))))))
theorem hsame_places : Has specs "same_places" (lv 1 c_same_places) := .tail _ (.tail _ (.tail _ (.tail _ (.tail _ (.tail _ (.tail _ (.tail _ (.tail _ (.tail _ (.tail _ (.tail _ (.tail _ (.tail _ (.tail _ (.tail _ (.tail _ (.head _)))))))))))))))))
theorem hthing_of : Has specs "thing_of" (lv 8 c_thing_of) := .tail _ (.tail _ (.tail _ (.tail _ (.tail _ (.tail _ (.tail _ (.tail _ (.tail _ (.tail _ (.tail _ (.tail _ (.tail _ (.tail _ (.tail _ (.tail _ (.tail _ (.tail _ (.head _))))))))))))))))))
theorem hcounted : Has specs "counted" (lv 8 c_counted) := .tail _ (.tail _ (.tail _ (.tail _ (.tail _ (.tail _ (.tail _ (.tail _ (.tail _ (.tail _ (.tail _ (.tail _ (.tail _ (.tail _ (.tail _ (.tail _ (.tail _ (.tail _ (.tail _ (.head _)))))))))))))))))))
theorem hpart_of : Has specs "part_of" (lv 8 c_part_of) := .tail _ (.tail _ (.tail _ (.tail _ (.tail _ (.tail _ (.tail _ (.tail _ (.tail _ (.tail _ (.tail _ (.tail _ (.tail _ (.tail _ (.tail _ (.tail _ (.tail _ (.tail _ (.tail _ (.tail _ (.head _))))))))))))))))))))
theorem hset_beside : Has specs "set_beside" (lv 8 c_set_beside) := .tail _ (.tail _ (.tail _ (.tail _ (.tail _ (.tail _ (.tail _ (.tail _ (.tail _ (.tail _ (.tail _ (.tail _ (.tail _ (.tail _ (.tail _ (.tail _ (.tail _ (.tail _ (.tail _ (.tail _ (.tail _ (.head _)))))))))))))))))))))
theorem h_law_feed : Has specs "_law_feed" (lv 1 c_feed) := .tail _ (.tail _ (.tail _ (.tail _ (.tail _ (.tail _ (.tail _ (.tail _ (.tail _ (.tail _ (.tail _ (.tail _ (.tail _ (.tail _ (.tail _ (.tail _ (.tail _ (.tail _ (.tail _ (.tail _ (.tail _ (.tail _ (.head _))))))))))))))))))))))
theorem h_law_draw : Has specs "_law_draw" (lv 1 c_draw) := .tail _ (.tail _ (.tail _ (.tail _ (.tail _ (.tail _ (.tail _ (.tail _ (.tail _ (.tail _ (.tail _ (.tail _ (.tail _ (.tail _ (.tail _ (.tail _ (.tail _ (.tail _ (.tail _ (.tail _ (.tail _ (.tail _ (.tail _ (.head _)))))))))))))))))))))))
theorem h_law_one : Has specs "_law_one" (lv 2 c_one) := .tail _ (.tail _ (.tail _ (.tail _ (.tail _ (.tail _ (.tail _ (.tail _ (.tail _ (.tail _ (.tail _ (.tail _ (.tail _ (.tail _ (.tail _ (.tail _ (.tail _ (.tail _ (.tail _ (.tail _ (.tail _ (.tail _ (.tail _ (.tail _ (.head _))))))))))))))))))))))))
theorem h_law_same : Has specs "_law_same" (c_same) := .tail _ (.tail _ (.tail _ (.tail _ (.tail _ (.tail _ (.tail _ (.tail _ (.tail _ (.tail _ (.tail _ (.tail _ (.tail _ (.tail _ (.tail _ (.tail _ (.tail _ (.tail _ (.tail _ (.tail _ (.tail _ (.tail _ (.tail _ (.tail _ (.tail _ (.head _)))))))))))))))))))))))))
theorem h_law_turned : Has specs "_law_turned" (lv 1 c_turned_by) := .tail _ (.tail _ (.tail _ (.tail _ (.tail _ (.tail _ (.tail _ (.tail _ (.tail _ (.tail _ (.tail _ (.tail _ (.tail _ (.tail _ (.tail _ (.tail _ (.tail _ (.tail _ (.tail _ (.tail _ (.tail _ (.tail _ (.tail _ (.tail _ (.tail _ (.tail _ (.head _))))))))))))))))))))))))))
theorem h_law_longer : Has specs "_law_longer" (lv 1 c_longer) := .tail _ (.tail _ (.tail _ (.tail _ (.tail _ (.tail _ (.tail _ (.tail _ (.tail _ (.tail _ (.tail _ (.tail _ (.tail _ (.tail _ (.tail _ (.tail _ (.tail _ (.tail _ (.tail _ (.tail _ (.tail _ (.tail _ (.tail _ (.tail _ (.tail _ (.tail _ (.tail _ (.head _)))))))))))))))))))))))))))
theorem h_law_turnings : Has specs "_law_turnings" (lv 2 c_turnings) := .tail _ (.tail _ (.tail _ (.tail _ (.tail _ (.tail _ (.tail _ (.tail _ (.tail _ (.tail _ (.tail _ (.tail _ (.tail _ (.tail _ (.tail _ (.tail _ (.tail _ (.tail _ (.tail _ (.tail _ (.tail _ (.tail _ (.tail _ (.tail _ (.tail _ (.tail _ (.tail _ (.tail _ (.head _))))))))))))))))))))))))))))
theorem h_law_closed : Has specs "_law_closed" (lv 2 c_closed) := .tail _ (.tail _ (.tail _ (.tail _ (.tail _ (.tail _ (.tail _ (.tail _ (.tail _ (.tail _ (.tail _ (.tail _ (.tail _ (.tail _ (.tail _ (.tail _ (.tail _ (.tail _ (.tail _ (.tail _ (.tail _ (.tail _ (.tail _ (.tail _ (.tail _ (.tail _ (.tail _ (.tail _ (.tail _ (.head _)))))))))))))))))))))))))))))
theorem h_law_group : Has specs "_law_group" (lv 3 c_lgroup) := .tail _ (.tail _ (.tail _ (.tail _ (.tail _ (.tail _ (.tail _ (.tail _ (.tail _ (.tail _ (.tail _ (.tail _ (.tail _ (.tail _ (.tail _ (.tail _ (.tail _ (.tail _ (.tail _ (.tail _ (.tail _ (.tail _ (.tail _ (.tail _ (.tail _ (.tail _ (.tail _ (.tail _ (.tail _ (.tail _ (.head _))))))))))))))))))))))))))))))
theorem h_law_kinds : Has specs "_law_kinds" (lv 4 c_lkinds) := .tail _ (.tail _ (.tail _ (.tail _ (.tail _ (.tail _ (.tail _ (.tail _ (.tail _ (.tail _ (.tail _ (.tail _ (.tail _ (.tail _ (.tail _ (.tail _ (.tail _ (.tail _ (.tail _ (.tail _ (.tail _ (.tail _ (.tail _ (.tail _ (.tail _ (.tail _ (.tail _ (.tail _ (.tail _ (.tail _ (.tail _ (.head _)))))))))))))))))))))))))))))))
theorem h_law_below : Has specs "_law_below" (lv 9 c_lbelow) := .tail _ (.tail _ (.tail _ (.tail _ (.tail _ (.tail _ (.tail _ (.tail _ (.tail _ (.tail _ (.tail _ (.tail _ (.tail _ (.tail _ (.tail _ (.tail _ (.tail _ (.tail _ (.tail _ (.tail _ (.tail _ (.tail _ (.tail _ (.tail _ (.tail _ (.tail _ (.tail _ (.tail _ (.tail _ (.tail _ (.tail _ (.tail _ (.head _))))))))))))))))))))))))))))))))
theorem h_law_great : Has specs "_law_great" (lv 1 c_lgreat) := .tail _ (.tail _ (.tail _ (.tail _ (.tail _ (.tail _ (.tail _ (.tail _ (.tail _ (.tail _ (.tail _ (.tail _ (.tail _ (.tail _ (.tail _ (.tail _ (.tail _ (.tail _ (.tail _ (.tail _ (.tail _ (.tail _ (.tail _ (.tail _ (.tail _ (.tail _ (.tail _ (.tail _ (.tail _ (.tail _ (.tail _ (.tail _ (.tail _ (.head _)))))))))))))))))))))))))))))))))
theorem h_law_right : Has specs "_law_right" (lv 10 (c_rightK 60)) := .tail _ (.tail _ (.tail _ (.tail _ (.tail _ (.tail _ (.tail _ (.tail _ (.tail _ (.tail _ (.tail _ (.tail _ (.tail _ (.tail _ (.tail _ (.tail _ (.tail _ (.tail _ (.tail _ (.tail _ (.tail _ (.tail _ (.tail _ (.tail _ (.tail _ (.tail _ (.tail _ (.tail _ (.tail _ (.tail _ (.tail _ (.tail _ (.tail _ (.tail _ (.head _))))))))))))))))))))))))))))))))))
theorem hlaw : Has specs "law" (lv 11 c_law) := .tail _ (.tail _ (.tail _ (.tail _ (.tail _ (.tail _ (.tail _ (.tail _ (.tail _ (.tail _ (.tail _ (.tail _ (.tail _ (.tail _ (.tail _ (.tail _ (.tail _ (.tail _ (.tail _ (.tail _ (.tail _ (.tail _ (.tail _ (.tail _ (.tail _ (.tail _ (.tail _ (.tail _ (.tail _ (.tail _ (.tail _ (.tail _ (.tail _ (.tail _ (.tail _ (.head _)))))))))))))))))))))))))))))))))))
theorem ph0 : ∀ f xs L Q Ex, ¬ Ph specs 0 f xs L Q Ex := by
  have : ∀ p ∈ specs, ∀ xs L Q E, ¬ p.2 0 xs L Q E := by
    unfold specs
    refine List.forall_mem_cons.mpr ⟨?_, List.forall_mem_cons.mpr ⟨?_, List.forall_mem_cons.mpr ⟨?_, List.forall_mem_cons.mpr ⟨?_, List.forall_mem_cons.mpr ⟨?_, List.forall_mem_cons.mpr ⟨?_, List.forall_mem_cons.mpr ⟨?_, List.forall_mem_cons.mpr ⟨?_, List.forall_mem_cons.mpr ⟨?_, List.forall_mem_cons.mpr ⟨?_, List.forall_mem_cons.mpr ⟨?_, List.forall_mem_cons.mpr ⟨?_, List.forall_mem_cons.mpr ⟨?_, List.forall_mem_cons.mpr ⟨?_, List.forall_mem_cons.mpr ⟨?_, List.forall_mem_cons.mpr ⟨?_, List.forall_mem_cons.mpr ⟨?_, List.forall_mem_cons.mpr ⟨?_, List.forall_mem_cons.mpr ⟨?_, List.forall_mem_cons.mpr ⟨?_, List.forall_mem_cons.mpr ⟨?_, List.forall_mem_cons.mpr ⟨?_, List.forall_mem_cons.mpr ⟨?_, List.forall_mem_cons.mpr ⟨?_, List.forall_mem_cons.mpr ⟨?_, List.forall_mem_cons.mpr ⟨?_, List.forall_mem_cons.mpr ⟨?_, List.forall_mem_cons.mpr ⟨?_, List.forall_mem_cons.mpr ⟨?_, List.forall_mem_cons.mpr ⟨?_, List.forall_mem_cons.mpr ⟨?_, List.forall_mem_cons.mpr ⟨?_, List.forall_mem_cons.mpr ⟨?_, List.forall_mem_cons.mpr ⟨?_, List.forall_mem_cons.mpr ⟨?_, List.forall_mem_cons.mpr ⟨?_, fun q hq => absurd hq List.not_mem_nil⟩⟩⟩⟩⟩⟩⟩⟩⟩⟩⟩⟩⟩⟩⟩⟩⟩⟩⟩⟩⟩⟩⟩⟩⟩⟩⟩⟩⟩⟩⟩⟩⟩⟩⟩⟩
    · exact fun xs L Q E h => absurd h.1 (by decide)
    · exact fun xs L Q E h => absurd h.1 (by decide)
    · exact fun xs L Q E h => absurd h.1 (by decide)
    · exact fun xs L Q E h => absurd h.1 (by decide)
    · exact fun xs L Q E h => absurd h.1 (by decide)
    · exact fun xs L Q E h => absurd h.1 (by decide)
    · exact fun xs L Q E h => absurd h.1 (by decide)
    · exact fun xs L Q E h => absurd h.1 (by decide)
    · exact fun xs L Q E h => absurd h.1 (by decide)
    · exact fun xs L Q E h => absurd h.1 (by decide)
    · exact fun xs L Q E h => absurd h.1 (by decide)
    · exact fun xs L Q E h => absurd h.1 (by decide)
    · exact fun xs L Q E h => absurd h.1 (by decide)
    · exact fun xs L Q E h => absurd h.1 (by decide)
    · exact fun xs L Q E h => absurd h.1 (by decide)
    · exact fun xs L Q E h => absurd h.1 (by decide)
    · exact fun xs L Q E h => absurd h.1 (by decide)
    · exact fun xs L Q E h => absurd h.1 (by decide)
    · exact fun xs L Q E h => absurd h.1 (by decide)
    · exact fun xs L Q E h => absurd h.1 (by decide)
    · exact fun xs L Q E h => absurd h.1 (by decide)
    · exact fun xs L Q E h => absurd h.1 (by decide)
    · exact fun xs L Q E h => absurd h.1 (by decide)
    · exact fun xs L Q E h => absurd h.1 (by decide)
    · exact fun xs L Q E h => absurd h.1 (by decide)
    · exact fun xs L Q E h => c_same_zero (E := E) h
    · exact fun xs L Q E h => absurd h.1 (by decide)
    · exact fun xs L Q E h => absurd h.1 (by decide)
    · exact fun xs L Q E h => absurd h.1 (by decide)
    · exact fun xs L Q E h => absurd h.1 (by decide)
    · exact fun xs L Q E h => absurd h.1 (by decide)
    · exact fun xs L Q E h => absurd h.1 (by decide)
    · exact fun xs L Q E h => absurd h.1 (by decide)
    · exact fun xs L Q E h => absurd h.1 (by decide)
    · exact fun xs L Q E h => absurd h.1 (by decide)
    · exact fun xs L Q E h => absurd h.1 (by decide)
  rintro f xs L Q Ex ⟨c, hc, h⟩
  exact this _ hc _ _ _ _ h
theorem phs : ∀ k f xs L Q Ex, Ph specs (k + 1) f xs L Q Ex → ∃ d, T.get f = some d ∧ xs.length = d.ps.length ∧ bodyK (Ph specs k) d.N.length d.ir xs L Q Ex := by
  intro k
  have : ∀ p ∈ specs, ∀ xs L Q E, p.2 (k + 1) xs L Q E → ∃ d, T.get p.1 = some d ∧ xs.length = d.ps.length ∧ bodyK (Ph specs k) d.N.length d.ir xs L Q E := by
    unfold specs
    refine List.forall_mem_cons.mpr ⟨?_, List.forall_mem_cons.mpr ⟨?_, List.forall_mem_cons.mpr ⟨?_, List.forall_mem_cons.mpr ⟨?_, List.forall_mem_cons.mpr ⟨?_, List.forall_mem_cons.mpr ⟨?_, List.forall_mem_cons.mpr ⟨?_, List.forall_mem_cons.mpr ⟨?_, List.forall_mem_cons.mpr ⟨?_, List.forall_mem_cons.mpr ⟨?_, List.forall_mem_cons.mpr ⟨?_, List.forall_mem_cons.mpr ⟨?_, List.forall_mem_cons.mpr ⟨?_, List.forall_mem_cons.mpr ⟨?_, List.forall_mem_cons.mpr ⟨?_, List.forall_mem_cons.mpr ⟨?_, List.forall_mem_cons.mpr ⟨?_, List.forall_mem_cons.mpr ⟨?_, List.forall_mem_cons.mpr ⟨?_, List.forall_mem_cons.mpr ⟨?_, List.forall_mem_cons.mpr ⟨?_, List.forall_mem_cons.mpr ⟨?_, List.forall_mem_cons.mpr ⟨?_, List.forall_mem_cons.mpr ⟨?_, List.forall_mem_cons.mpr ⟨?_, List.forall_mem_cons.mpr ⟨?_, List.forall_mem_cons.mpr ⟨?_, List.forall_mem_cons.mpr ⟨?_, List.forall_mem_cons.mpr ⟨?_, List.forall_mem_cons.mpr ⟨?_, List.forall_mem_cons.mpr ⟨?_, List.forall_mem_cons.mpr ⟨?_, List.forall_mem_cons.mpr ⟨?_, List.forall_mem_cons.mpr ⟨?_, List.forall_mem_cons.mpr ⟨?_, List.forall_mem_cons.mpr ⟨?_, fun q hq => absurd hq List.not_mem_nil⟩⟩⟩⟩⟩⟩⟩⟩⟩⟩⟩⟩⟩⟩⟩⟩⟩⟩⟩⟩⟩⟩⟩⟩⟩⟩⟩⟩⟩⟩⟩⟩⟩⟩⟩⟩
    · exact fun xs L Q E h => ⟨dis_integer, rfl, b_is_integer h⟩
    · exact fun xs L Q E h => ⟨dneed_number, rfl, b_need_number his_integer h⟩
    · exact fun xs L Q E h => ⟨dis_row_unlike, rfl, b_is_row_unlike his_integer h⟩
    · exact fun xs L Q E h => ⟨dis_turning_form, rfl, b_is_turning_form his_row_unlike h⟩
    · exact fun xs L Q E h => ⟨dturned_by, rfl, b_turned_by h⟩
    · exact fun xs L Q E h => ⟨dstill, rfl, b_still h⟩
    · exact fun xs L Q E h => ⟨dis_group_form, rfl, b_is_group_form his_turning_form hstill hturned_by h⟩
    · exact fun xs L Q E h => ⟨dleast_row, rfl, b_least_row hturned_by h⟩
    · exact fun xs L Q E h => ⟨dis_many, rfl, b_is_many his_integer h⟩
    · exact fun xs L Q E h => ⟨dis_kind_form, rfl, b_is_kind_form his_many his_group_form h⟩
    · exact fun xs L Q E h => ⟨dis_set_form, rfl, b_is_set_form his_kind_form h⟩
    · exact fun xs L Q E h => ⟨dneed_set, rfl, b_need_set his_set_form h⟩
    · exact fun xs L Q E h => ⟨dneed_told_set, rfl, b_need_told_set h⟩
    · exact fun xs L Q E h => ⟨dneed_index, rfl, b_need_index his_integer h⟩
    · exact fun xs L Q E h => ⟨dtold, rfl, b_told hleast_row h⟩
    · exact fun xs L Q E h => ⟨dthings_below, rfl, b_things_below h⟩
    · exact fun xs L Q E h => ⟨dneed_part, rfl, b_need_part his_integer h⟩
    · exact fun xs L Q E h => ⟨dsame_places, rfl, b_same_places h⟩
    · exact fun xs L Q E h => ⟨dthing_of, rfl, b_thing_of hneed_set hneed_index his_row_unlike htold h⟩
    · exact fun xs L Q E h => ⟨dcounted, rfl, b_counted hneed_set hneed_number hthings_below h⟩
    · exact fun xs L Q E h => ⟨dpart_of, rfl, b_part_of hneed_set hneed_part hsame_places h⟩
    · exact fun xs L Q E h => ⟨dset_beside, rfl, b_set_beside hneed_set hneed_told_set hsame_places h⟩
    · exact fun xs L Q E h => ⟨d_law_feed, rfl, b_feed (by decide) h⟩
    · exact fun xs L Q E h => ⟨d_law_draw, rfl, b_draw (by decide) (by decide) h⟩
    · exact fun xs L Q E h => ⟨d_law_one, rfl, b_one h_law_draw h⟩
    · exact fun xs L Q E h => ⟨d_law_same, rfl, b_same h_law_same h⟩
    · exact fun xs L Q E h => ⟨d_law_turned, rfl, b_lturned h⟩
    · exact fun xs L Q E h => ⟨d_law_longer, rfl, b_longer h⟩
    · exact fun xs L Q E h => ⟨d_law_turnings, rfl, b_turnings h_law_longer h⟩
    · exact fun xs L Q E h => ⟨d_law_closed, rfl, b_closed h_law_turned h⟩
    · exact fun xs L Q E h => ⟨d_law_group, rfl, b_lgroup h_law_turnings h_law_one h_law_closed h⟩
    · exact fun xs L Q E h => ⟨d_law_kinds, rfl, b_lkinds h_law_draw h_law_group h⟩
    · exact fun xs L Q E h => ⟨d_law_below, rfl, b_lbelow h_law_longer hthing_of h⟩
    · exact fun xs L Q E h => ⟨d_law_great, rfl, b_lgreat h⟩
    · exact fun xs L Q E h => ⟨d_law_right, rfl, b_right h_law_draw h_law_kinds h_law_same h_law_below h_law_great hcounted hset_beside hpart_of h⟩
    · exact fun xs L Q E h => ⟨dlaw, rfl, b_lawT (by decide) (by decide) (by decide) (by decide) h_law_feed h_law_right h⟩
  rintro f xs L Q Ex ⟨c, hc, h⟩
  exact this _ hc _ _ _ _ h
theorem facts {P : Program} {w : World} {K : PySem.W.Frag} {h : Heap} {mg : Str → Option Value} {f : Addr} (X : K.In h) (G : h.Ns mainGlobals mg) (hfa : mg ("law" : Str) = some (.ref f)) (c : He.SaysD T.fa T.fn K) (cx : excB K T.exi = true) :
    ∃ fd : FuncData, (∀ (s : Shared) (v : Value), BindsTo s fd ⟨[v], []⟩ [("script", v)]) ∧ ∃ sp : Sp, (∀ (H : Hp) (a : Addr) (ns : List Int), ns.length ≤ 63 → Only H → SqL K H a (ns.map V.int) → sp [.ref a] H (fun v _ => v = .bl true) fun _ _ _ => False) ∧
      ∀ base : Heap, K.In base → base.Ns mainGlobals mg → FnOk P w K mg base (L2.CX P w) 12 f fd ["script"] sp :=
  law_ok (Φn := Ph specs) (d := dlaw) X G c cx T_chk T_bind ph0 phs rfl rfl hfa fun ns hl => ph hlaw ⟨by decide, ns, rfl, hl, fun _ => rfl⟩
end K05

namespace K05
open PySem PySem.Spec PyProof.Rows L2 Nr
def CXw (P : Program) : CXT := fun outer H s E u s' => ∃ w : World, L2.CX P w outer H s E u s'
theorem fnOk_cx {P : Program} {w : World} {K : PySem.W.Frag} {mg : Str → Option Value} {base : Heap} {k : Nat} {f : Addr} {fd : FuncData} {ps : List Str} {sp : Sp} (F : FnOk P w K mg base (L2.CX P w) k f fd ps sp) : FnOk P w K mg base (CXw P) k f fd ps sp :=
  ⟨F.len, fun A outer s H args us vs Q E hr he hb hv hs => codeAny_mono (F.run A outer s H args us vs Q E hr he hb hv hs) fun r s' hq => by
    cases r with
    | error e => exact ⟨w, hq⟩
    | ok fl => cases fl <;> exact hq⟩
theorem cxw_no {P : Program} (H : Hp) (s : Shared) (e : Value) (s' : Shared) (h : CXw P [] H s (fun _ _ _ => False) e s') : False := by
  obtain ⟨w, _, _, _, _, _, _, _, _, _, _, _, _, z⟩ := h
  exact z
end K05
open PySem PySem.W PySem.Calls PyProof.Rows
theorem PySem.Challenge.cw_namerooms_k05_whole_things_counted_holds : PySem.Challenge.rw_namerooms_k05_whole_things_counted.Holds := by
  w_on; o_law
  refine HandSHeadRun.head_any (r := OpenLaw.row PySem.Challenge.rw_namerooms_k05_whole_things_counted) (q := view (OpenLaw.row PySem.Challenge.rw_namerooms_k05_whole_things_counted).prog [55]) (H := K05.hk) (ob := K05.ob) (M := 4000) (loose := K05.loose)
    (d := HandSHeadRun.topDef (OpenLaw.row PySem.Challenge.rw_namerooms_k05_whole_things_counted).prog 55) (kwd := []) K05.ob_eq
    (by kernel_rfl) (fun s => by kernel_rfl) K05.run (by kernel_rfl) (by kernel_rfl) (by kernel_rfl) (by rfl) (by first | assumption | decide +kernel) (by decide +kernel) ⟨rfl, rfl, rfl, rfl, rfl, by decide +kernel⟩ ?hw ?hc
  case hw => w_witness2
  case hc =>
    refine L2.walk_ofE (l := PySem.Challenge.rw_namerooms_k05_whole_things_counted) (n := 63) (k := 12) (x := "script") (CX := K05.CXw (PySem.Challenge.rw_namerooms_k05_whole_things_counted).prog) rfl (by decide) (by kernel_rfl) ⟨rfl, by decide, by decide⟩ ?F K05.cxw_no
    intro w mg fa h Y G hmg0
    obtain ⟨K, KX, c, cx⟩ := Y
    have hmg : mg ("law" : PySem.Str) = some (.ref fa) := by
      have e : (HandSHeadRun.topDef (OpenLaw.row PySem.Challenge.rw_namerooms_k05_whole_things_counted).prog 55).name = ("law" : PySem.Str) := by kernel_rfl
      rw [← e]
      exact hmg0
    obtain ⟨fd, hb, sp, hsp, hF⟩ := K05.facts (P := (PySem.Challenge.rw_namerooms_k05_whole_things_counted).prog) (w := w) KX G hmg c cx
    exact ⟨K, fd, sp, KX, hb, hsp, fun base h1 h2 => K05.fnOk_cx (hF base h1 h2)⟩
