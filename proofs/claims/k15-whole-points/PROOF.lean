import PyProof.Rows.All
import Wide.All
import OpenK.AllK
import Wide.FinOn
import HandS.ForMost
import HandS.Exc
import HandS.Flow
import HandS.IsInst
import HandS.TupAny
import HandS.TupLe
import HandS.TupMul
import HandS.Wide
import HandS.Deep
import HandS.NoneIn
import HandS.Conv
import HandS.Defaults
import HandS.WordsExc
import HandS.ExcIs
import HandS.Zip
import HandS.DictComp
import KE.KDictKeyed
import KE.KDictDisplayH
import KE.KeyNested
import KE.SortData
import KE.LtData
import HandS.HeadHook1
import HandS.Style
import HandS.HeadHook2
import HandS.HeadHook4
import HandS.HeadEnd
import HandS.Head0
import HandS.Head1
import HandS.Head2
import PySem.Challenge.RW_namerooms_k15_whole_points
set_option Elab.async false
set_option linter.all false
set_option maxRecDepth 100000
set_option maxHeartbeats 0
set_option exponentiation.threshold 2000
/-! Data trees, the logical heap, and how they stand for what the hand layer tracks. -/
namespace Nr
open PySem PySem.Spec PyProof.Rows L2

/-- a value as data: tuples and lists that nobody changes are trees; what may change is told by its number -/
inductive D where
  | non | bl (b : Bool) | int (i : Int) | str (x : Str)
  | tup (xs : List D) | lst (xs : List D) | scr (xs : List D)
  | dct (t : Bool) (ks vs : List D)
  | obj (i : Nat) | exc (c : Str)

/-- what stands at a number -/
inductive O where
  | dead | lst (xs : List D) | dct (t : Bool) (ks vs : List D) | ins (c : Str) (fs : List (Str × D))

abbrev Hl := List O
abbrev Ds := List (Option D)

def O.live : O → Prop
  | .dead => False
  | _ => True
def Alive (L : Hl) (i : Nat) : Prop := ∃ o, L[i]? = some o ∧ o.live
theorem Alive.lt {L : Hl} {i : Nat} (h : Alive L i) : i < L.length := by
  obtain ⟨o, h, _⟩ := h
  exact (List.getElem?_eq_some_iff.mp h).1

/-- the written part and the names of the module -/
structure Wd where
  P : Program
  w : World
  K : PySem.W.Frag
  mg : Str → Option Value

/-- a datum as a key of a dict -/
def nkey : D → NestedKey
  | .non => .none
  | .bl b => .num (if b then 1 else 0)
  | .int i => .num i
  | .str x => .text x
  | .tup xs => .tup (nkeys xs)
  | _ => .none
where nkeys : List D → List NestedKey
  | [] => []
  | x :: xs => nkey x :: nkeys xs

/-- a flat key -/
def fkey : D → Option Key
  | .int i => some (.inl i)
  | .str x => some (.inr x)
  | _ => none

/-- at a stands a dict: the keys' values kv (they stand for kd), the values vv -/
def DctAt (W : Wd) (H : Hp) (a : Addr) : Bool → List V → List D → List V → Prop
  | false, kv, kd, vv => ∃ kvs : List (Key × V), H a = some (.dK kvs) ∧ kv = kvs.map (fun p => kV p.1) ∧ vv = kvs.map (·.2) ∧ (kvs.map (·.1)).Nodup ∧ kd.map fkey = kvs.map (fun p => some p.1)
  | true, kv, kd, vv => ∃ (xs : List (NestedKey × Addr × Value)) (ob : Obj) (es : Array DictEntry) (ep : Nat), H a = some (.ext fun h => h.get? a = some ob) ∧ (a == sysModules) = false ∧ xs.length ≤ sizeLine ∧
      ob.ExactDict ∧ ob.data = .dict es ep ∧ es.toList = xs.map (entryOfKey (nestedKind W.P W.w)) ∧ (xs.map (·.1)).Nodup ∧
      kv = xs.map (fun x => V.ref x.2.1) ∧ kd.map nkey = xs.map (·.1) ∧ Vals vv (xs.map (·.2.2)) ∧ ∀ x ∈ xs, x.1.depth ≤ 8

/-- a tuple of the written part -/
def KTup (K : PySem.W.Frag) (a : Addr) (vs : List V) : Prop :=
  ∃ (o : Obj) (its : Array Value) (n : Nat), K.lookup a = some o ∧ o.cls = .type "tuple" ∧ o.data = .seq its n ∧ its.size ≤ sizeLine ∧ Vals vs its.toList
/-- a list of the written part -/
def KLst (K : PySem.W.Frag) (a : Addr) (vs : List V) : Prop :=
  ∃ (o : Obj) (its : Array Value) (n : Nat), K.lookup a = some o ∧ o.cls = .type "list" ∧ o.dict = none ∧ o.data = .seq its n ∧ its.size ≤ sizeLine ∧ Vals vs its.toList
/-- the numbers' places; places that nothing but the one that reserved them may use -/
structure Nb where
  m : Nat → Addr
  r : List Addr
def ApN (m : Nb) (L : Hl) (a : Addr) : Prop := ∀ i, Alive L i → m.m i ≠ a
def Apart (m : Nb) (L : Hl) (a : Addr) : Prop := ApN m L a ∧ a ∉ m.r

/-- an exception object that is held -/
def ExcAt (W : Wd) (H : Hp) (a : Addr) (c : Str) : Prop := ∃ C : Addr, W.mg c = some (.ref C) ∧ H a = some (.ext fun h => ∃ o vs, h.get? a = some o ∧ o.cls = .ref C ∧ o.dict = none ∧ o.data = .fields vs)

mutual
inductive RepV (W : Wd) (m : Nb) (L : Hl) (H : Hp) : V → D → Prop
  | non : RepV W m L H .non .non
  | bl (b : Bool) : RepV W m L H (.bl b) (.bl b)
  | int (i : Int) : RepV W m L H (.int i) (.int i)
  | str (x : Str) : PyData.strOk x = true → RepV W m L H (.str x) (.str x)
  | tup {a : Addr} {vs : List V} {ds : List D} : Rd H a (.tup vs) → RepVs W m L H vs ds → Apart m L a → RepV W m L H (.ref a) (.tup ds)
  | tupK {a : Addr} {vs : List V} {ds : List D} : KTup W.K a vs → RepVs W m L H vs ds → RepV W m L H (.ref a) (.tup ds)
  | lst {a : Addr} {vs : List V} {ds : List D} : H a = some (.lst vs) → RepVs W m L H vs ds → Apart m L a → RepV W m L H (.ref a) (.lst ds)
  | scr {a : Addr} {o : Obj} {vs : List V} {ds : List D} : H a = some (.frz o (.lst vs)) → RepVs W m L H vs ds → Apart m L a → RepV W m L H (.ref a) (.scr ds)
  | scrK {a : Addr} {vs : List V} {ds : List D} : KLst W.K a vs → RepVs W m L H vs ds → RepV W m L H (.ref a) (.scr ds)
  | dct {a : Addr} {t : Bool} {kv vv : List V} {ks vs : List D} : DctAt W H a t kv ks vv → RepVs W m L H kv ks → RepVs W m L H vv vs → Apart m L a → RepV W m L H (.ref a) (.dct t ks vs)
  | obj {i : Nat} : i < L.length → RepV W m L H (.ref (m.m i)) (.obj i)
  | exc {a : Addr} {c : Str} : ExcAt W H a c → Apart m L a → RepV W m L H (.ref a) (.exc c)
inductive RepVs (W : Wd) (m : Nb) (L : Hl) (H : Hp) : List V → List D → Prop
  | nil : RepVs W m L H [] []
  | cons {v : V} {vs : List V} {d : D} {ds : List D} : RepV W m L H v d → RepVs W m L H vs ds → RepVs W m L H (v :: vs) (d :: ds)
end

/-- what stands at m i -/
def RepO (W : Wd) (m : Nb) (L : Hl) (H : Hp) (a : Addr) : O → Prop
  | .dead => True
  | .lst ds => ∃ vs, H a = some (.lst vs) ∧ RepVs W m L H vs ds
  | .dct t ks vs => ∃ kv vv, DctAt W H a t kv ks vv ∧ RepVs W m L H kv ks ∧ RepVs W m L H vv vs
  | .ins c fs => ∃ (C dx : Addr) (gs : List (Str × V)), W.mg c = some (.ref C) ∧ H a = some (.ins C dx gs) ∧ H dx = some (.own a) ∧ Apart m L dx ∧ gs.map (·.1) = fs.map (·.1) ∧ RepVs W m L H (gs.map (·.2)) (fs.map (·.2))

structure RepL (W : Wd) (m : Nb) (L : Hl) (H : Hp) : Prop where
  ob : ∀ i o, L[i]? = some o → RepO W m L H (m.m i) o
  inj : ∀ i j, Alive L i → Alive L j → m.m i = m.m j → i = j
  res : ∀ a ∈ m.r, H a ≠ none
  nr : ∀ i, Alive L i → m.m i ∉ m.r

/-- from one state to a later one -/
structure Step (m : Nb) (L : Hl) (H : Hp) (m' : Nb) (L' : Hl) (H' : Hp) : Prop where
  len : L.length ≤ L'.length
  ids : ∀ i, i < L.length → m'.m i = m.m i
  rs : (∀ a, a ∈ m.r → a ∈ m'.r) ∧ ∀ a, a ∈ m'.r → a ∈ m.r ∨ H a = none
  live : ∀ i, i < L.length → Alive L' i → Alive L i
  keep : ∀ a o, H a = some o → ApN m L a → H' a = some o
  there : ∀ a, H' a = none → H a = none
  new : ∀ i, L.length ≤ i → Alive L' i → H (m'.m i) = none

section
variable {W : Wd} {m m' m1 m2 : Nb} {L L' L1 L2 : Hl} {H H' H1 H2 : Hp}
theorem Step.refl : Step m L H m L H :=
  ⟨Nat.le_refl _, fun _ _ => rfl, ⟨fun _ h => h, fun _ h => .inl h⟩, fun _ _ h => h, fun _ _ h _ => h, fun _ h => h, fun _ h1 h2 => absurd h2.lt (Nat.not_lt.mpr h1)⟩
theorem Step.apn (st : Step m L H m' L' H') {a : Addr} (h : H a ≠ none) (ap : ApN m L a) : ApN m' L' a := fun i al => by
  by_cases hi : i < L.length
  · rw [st.ids i hi]; exact ap i (st.live i hi al)
  · intro e
    exact h (e ▸ st.new i (Nat.not_lt.mp hi) al)
theorem Step.apart (st : Step m L H m' L' H') {a : Addr} (h : H a ≠ none) (ap : Apart m L a) : Apart m' L' a := ⟨st.apn h ap.1, fun z => (st.rs.2 a z).elim ap.2 h⟩
theorem some_ne {α : Type} {x : Option α} {o : α} (h : x = some o) : x ≠ none := by rw [h]; exact fun e => nomatch e
theorem Step.trans (a : Step m L H m1 L1 H1) (b : Step m1 L1 H1 m2 L2 H2) : Step m L H m2 L2 H2 where
  len := Nat.le_trans a.len b.len
  ids := fun i hi => (b.ids i (Nat.lt_of_lt_of_le hi a.len)).trans (a.ids i hi)
  rs := ⟨fun c h => b.rs.1 c (a.rs.1 c h), fun c h => (b.rs.2 c h).elim (a.rs.2 c) fun z => .inr (a.there c z)⟩
  live := fun i hi al => a.live i hi (b.live i (Nat.lt_of_lt_of_le hi a.len) al)
  keep := fun c o h ap => b.keep c o (a.keep c o h ap) (a.apn (some_ne h) ap)
  there := fun c h => a.there c (b.there c h)
  new := fun i hi al => by
    by_cases hj : i < L1.length
    · rw [b.ids i hj]; exact a.new i hi (b.live i hj al)
    · exact a.there _ (b.new i (Nat.not_lt.mp hj) al)
theorem Rd.ne {a : Addr} {u : HO} (h : Rd H a u) : H a ≠ none := by
  rcases h with h | ⟨o, h⟩ <;> exact some_ne h
theorem Step.rd (st : Step m L H m' L' H') {a : Addr} {u : HO} (h : Rd H a u) (ap : Apart m L a) : Rd H' a u := by
  rcases h with h | ⟨o, h⟩
  · exact .inl (st.keep a _ h ap.1)
  · exact .inr ⟨o, st.keep a _ h ap.1⟩
theorem DctAt.ne {a : Addr} {t : Bool} {kv vv : List V} {kd : List D} (h : DctAt W H a t kv kd vv) : H a ≠ none := by
  cases t with
  | false => obtain ⟨_, h, _⟩ := h; exact some_ne h
  | true => obtain ⟨_, _, _, _, h, _⟩ := h; exact some_ne h
theorem DctAt.at {a : Addr} {t : Bool} {kv vv : List V} {kd : List D} (h : DctAt W H a t kv kd vv) (k : ∀ o, H a = some o → H' a = some o) : DctAt W H' a t kv kd vv := by
  cases t with
  | false => obtain ⟨x, h, r⟩ := h; exact ⟨x, k _ h, r⟩
  | true => obtain ⟨x1, x2, x3, x4, h, r⟩ := h; exact ⟨x1, x2, x3, x4, k _ h, r⟩
theorem Step.dct (st : Step m L H m' L' H') {a : Addr} {t : Bool} {kv vv : List V} {kd : List D} (h : DctAt W H a t kv kd vv) (ap : Apart m L a) : DctAt W H' a t kv kd vv :=
  h.at fun o e => st.keep a o e ap.1
mutual
/-- what stood for a datum stands for it later -/
theorem RepV.step (st : Step m L H m' L' H') : ∀ {v : V} {d : D}, RepV W m L H v d → RepV W m' L' H' v d
  | _, _, .non => .non
  | _, _, .bl b => .bl b
  | _, _, .int i => .int i
  | _, _, .str x h => .str x h
  | _, _, .tup h r ap => .tup (st.rd h ap) (RepVs.step st r) (st.apart (Rd.ne h) ap)
  | _, _, .tupK h r => .tupK h (RepVs.step st r)
  | _, _, .lst h r ap => .lst (st.keep _ _ h ap.1) (RepVs.step st r) (st.apart (some_ne h) ap)
  | _, _, .scr h r ap => .scr (st.keep _ _ h ap.1) (RepVs.step st r) (st.apart (some_ne h) ap)
  | _, _, .scrK h r => .scrK h (RepVs.step st r)
  | _, _, .dct h r1 r2 ap => .dct (st.dct h ap) (RepVs.step st r1) (RepVs.step st r2) (st.apart h.ne ap)
  | _, _, .obj (i := i) h => by
    have e := st.ids i h
    rw [← e]
    exact .obj (Nat.lt_of_lt_of_le h st.len)
  | _, _, .exc h ap => by
    obtain ⟨C, h1, h2⟩ := h
    exact .exc ⟨C, h1, st.keep _ _ h2 ap.1⟩ (st.apart (some_ne h2) ap)
theorem RepVs.step (st : Step m L H m' L' H') : ∀ {vs : List V} {ds : List D}, RepVs W m L H vs ds → RepVs W m' L' H' vs ds
  | _, _, .nil => .nil
  | _, _, .cons h r => .cons (RepV.step st h) (RepVs.step st r)
end
theorem RepVs.length : ∀ {vs : List V} {ds : List D}, RepVs W m L H vs ds → vs.length = ds.length
  | _, _, .nil => rfl
  | _, _, .cons _ r => congrArg (· + 1) (RepVs.length r)
theorem RepVs.get : ∀ {vs : List V} {ds : List D} {i : Nat} {v : V}, RepVs W m L H vs ds → vs[i]? = some v → ∃ d, ds[i]? = some d ∧ RepV W m L H v d
  | _, _, _, _, .nil, e => by simp at e
  | _, _, 0, _, .cons r _, e => by simp at e; subst e; exact ⟨_, rfl, r⟩
  | _, _, i + 1, v, .cons _ t, e => by
    obtain ⟨u, h1, h2⟩ := RepVs.get (i := i) (v := v) t (by simpa using e)
    exact ⟨u, by simpa using h1, h2⟩
theorem RepVs.getD : ∀ {vs : List V} {ds : List D} {i : Nat} {d : D}, RepVs W m L H vs ds → ds[i]? = some d → ∃ v, vs[i]? = some v ∧ RepV W m L H v d
  | _, _, _, _, .nil, e => by simp at e
  | _, _, 0, _, .cons r _, e => by simp at e; subst e; exact ⟨_, rfl, r⟩
  | _, _, i + 1, v, .cons _ t, e => by
    obtain ⟨u, h1, h2⟩ := RepVs.getD (i := i) (d := v) t (by simpa using e)
    exact ⟨u, by simpa using h1, h2⟩
theorem RepVs.append : ∀ {vs ws : List V} {ds es : List D}, RepVs W m L H vs ds → RepVs W m L H ws es → RepVs W m L H (vs ++ ws) (ds ++ es)
  | _, _, _, _, .nil, s => s
  | _, _, _, _, .cons r t, s => .cons r (RepVs.append t s)
theorem RepVs.take : ∀ {vs : List V} {ds : List D} (n : Nat), RepVs W m L H vs ds → RepVs W m L H (vs.take n) (ds.take n)
  | _, _, 0, _ => .nil
  | _, _, _ + 1, .nil => .nil
  | _, _, n + 1, .cons r t => .cons r (RepVs.take n t)
theorem RepVs.drop : ∀ {vs : List V} {ds : List D} (n : Nat), RepVs W m L H vs ds → RepVs W m L H (vs.drop n) (ds.drop n)
  | _, _, 0, r => r
  | _, _, _ + 1, .nil => .nil
  | _, _, n + 1, .cons _ t => RepVs.drop n t
theorem RepVs.set {v : V} {d : D} (r : RepV W m L H v d) : ∀ {vs : List V} {ds : List D} (i : Nat), RepVs W m L H vs ds → RepVs W m L H (vs.set i v) (ds.set i d)
  | _, _, _, .nil => .nil
  | _, _, 0, .cons _ t => .cons r t
  | _, _, i + 1, .cons q t => .cons q (RepVs.set r i t)
theorem RepVs.eraseIdx : ∀ {vs : List V} {ds : List D} (i : Nat), RepVs W m L H vs ds → RepVs W m L H (vs.eraseIdx i) (ds.eraseIdx i)
  | _, _, _, .nil => .nil
  | _, _, 0, .cons _ t => t
  | _, _, i + 1, .cons q t => .cons q (RepVs.eraseIdx i t)
theorem RepVs.one {v : V} {d : D} (r : RepV W m L H v d) : RepVs W m L H [v] [d] := .cons r .nil
theorem RepVs.dropLast {vs : List V} {ds : List D} (r : RepVs W m L H vs ds) : RepVs W m L H vs.dropLast ds.dropLast := by
  rw [List.dropLast_eq_take, List.dropLast_eq_take, r.length]
  exact r.take _
theorem RepVs.rep {vs : List V} {ds : List D} (r : RepVs W m L H vs ds) : ∀ n : Nat, RepVs W m L H (List.replicate n vs).flatten (List.replicate n ds).flatten
  | 0 => .nil
  | n + 1 => by
    rw [List.replicate_succ, List.replicate_succ, List.flatten_cons, List.flatten_cons]
    exact r.append (RepVs.rep r n)
theorem RepO.ne {a : Addr} {o : O} (h : RepO W m L H a o) (hl : o.live) : H a ≠ none := by
  cases o with
  | dead => exact hl.elim
  | lst ds => obtain ⟨_, h, _⟩ := h; exact some_ne h
  | dct t ks vs => obtain ⟨_, _, h, _⟩ := h; exact h.ne
  | ins c fs => obtain ⟨_, _, _, _, h, _⟩ := h; exact some_ne h
theorem RepL.there (r : RepL W m L H) {i : Nat} (h : Alive L i) : H (m.m i) ≠ none := by
  obtain ⟨o, e, hl⟩ := h
  exact (r.ob i o e).ne hl
/-- a free address is no object's -/
theorem RepL.free (r : RepL W m L H) {a : Addr} (h : H a = none) : Apart m L a := ⟨fun i al e => r.there al (e ▸ h), fun z => r.res a z h⟩
end
end Nr

namespace Nr
open PySem PySem.Spec PyProof.Rows L2
section
variable {W : Wd} {m m' m1 m2 : Nb} {L L' L1 L2 : Hl} {H H' H1 H2 : Hp}

/-! ### what the states do -/
/-- the numbered objects stand as they stood -/
theorem RepL.keep (r : RepL W m L H) (st : Step m L H m L H') (k : ∀ i, Alive L i → ∀ o, H (m.m i) = some o → H' (m.m i) = some o) : RepL W m L H' := by
  refine ⟨fun i o e => ?_, r.inj, fun a z n => r.res a z (st.there a n), r.nr⟩
  have q := r.ob i o e
  cases o with
  | dead => trivial
  | lst ds =>
    obtain ⟨vs, h, rv⟩ := q
    exact ⟨vs, k i ⟨_, e, trivial⟩ _ h, rv.step st⟩
  | dct t ks vs =>
    obtain ⟨kv, vv, h, r1, r2⟩ := q
    exact ⟨kv, vv, h.at (k i ⟨_, e, trivial⟩), r1.step st, r2.step st⟩
  | ins c fs =>
    obtain ⟨C, dx, gs, h1, h2, h3, h4, h5, h6⟩ := q
    exact ⟨C, dx, gs, h1, k i ⟨_, e, trivial⟩ _ h2, st.keep _ _ h3 h4.1, h4, h5, h6.step st⟩
/-- a new object that no number has -/
theorem Step.laid {p : Addr} {o : HO} (hp : H p = none) : Step m L H m L (upd H p o) where
  len := Nat.le_refl _
  ids := fun _ _ => rfl
  rs := ⟨fun _ h => h, fun _ h => .inl h⟩
  live := fun _ _ h => h
  keep := fun a u h _ => by rw [upd_ne (ne_of_none h hp)]; exact h
  there := fun a h => by
    by_cases e : a = p
    · rw [e, upd_same] at h; cases h
    · rw [upd_ne e] at h; exact h
  new := fun _ h1 h2 => absurd h2.lt (Nat.not_lt.mpr h1)
theorem RepL.laid {p : Addr} {o : HO} (r : RepL W m L H) (hp : H p = none) : RepL W m L (upd H p o) :=
  r.keep (Step.laid hp) fun i _ u h => by rw [upd_ne (ne_of_none h hp)]; exact h
theorem Apart.laid {p : Addr} (r : RepL W m L H) (hp : H p = none) : Apart m L p := r.free hp

/-- only new objects came -/
structure Nx (W : Wd) (m : Nb) (L : Hl) (H H' : Hp) : Prop where
  st : Step m L H m L H'
  rl : RepL W m L H'
theorem Nx.refl (r : RepL W m L H) : Nx W m L H H := ⟨Step.refl, r⟩
theorem Nx.laid {p : Addr} {o : HO} (r : RepL W m L H) (hp : H p = none) : Nx W m L H (upd H p o) := ⟨Step.laid hp, r.laid hp⟩

/-! ### numbers -/
def nwId (m : Nb) (n : Nat) (p : Addr) : Nb := { m with m := fun i => if i = n then p else m.m i }
theorem nwId_same {n : Nat} {p : Addr} : (nwId m n p).m n = p := if_pos rfl
theorem nwId_ne {n i : Nat} {p : Addr} (h : i ≠ n) : (nwId m n p).m i = m.m i := if_neg h
theorem alive_push {o : O} {i : Nat} (h : Alive (L ++ [o]) i) : (i < L.length ∧ Alive L i) ∨ i = L.length := by
  obtain ⟨u, e, hl⟩ := h
  by_cases hi : i < L.length
  · rw [List.getElem?_append_left hi] at e
    exact .inl ⟨hi, u, e, hl⟩
  · have := (List.getElem?_eq_some_iff.mp e).1
    simp at this
    exact .inr (by omega)
theorem Step.push {o : O} {p : Addr} {u : HO} (hp : H p = none) : Step m L H (nwId m L.length p) (L ++ [o]) (upd H p u) where
  len := by simp
  ids := fun i hi => nwId_ne (Nat.ne_of_lt hi)
  rs := ⟨fun _ h => h, fun _ h => .inl h⟩
  live := fun i hi al => by
    rcases alive_push al with h | h
    · exact h.2
    · omega
  keep := fun a u h _ => by rw [upd_ne (ne_of_none h hp)]; exact h
  there := (Step.laid (m := m) (L := L) hp).there
  new := fun i hi al => by
    rcases alive_push al with h | h
    · omega
    · rw [h, nwId_same]; exact hp
/-- a new object, numbered -/
theorem RepL.push {o : O} {p : Addr} {u : HO} (r : RepL W m L H) (hp : H p = none) (ho : RepO W (nwId m L.length p) (L ++ [o]) (upd H p u) p o) : RepL W (nwId m L.length p) (L ++ [o]) (upd H p u) := by
  have st : Step m L H (nwId m L.length p) (L ++ [o]) (upd H p u) := Step.push hp
  have ne : ∀ {a : Addr} {x : HO}, H a = some x → upd H p u a = some x := fun {a x} h => by rw [upd_ne (ne_of_none h hp)]; exact h
  refine ⟨fun i x e => ?_, fun i j ai aj e => ?_, fun a z n => r.res a z (st.there a n), fun i ai z => ?_⟩
  · by_cases hi : i < L.length
    · rw [List.getElem?_append_left hi] at e
      rw [nwId_ne (Nat.ne_of_lt hi)]
      have q := r.ob i x e
      cases x with
      | dead => trivial
      | lst ds =>
        obtain ⟨vs, h, rv⟩ := q
        exact ⟨vs, ne h, rv.step st⟩
      | dct t ks vs =>
        obtain ⟨kv, vv, h, r1, r2⟩ := q
        exact ⟨kv, vv, h.at fun o h => ne h, r1.step st, r2.step st⟩
      | ins c fs =>
        obtain ⟨C, dx, gs, h1, h2, h3, h4, h5, h6⟩ := q
        exact ⟨C, dx, gs, h1, ne h2, ne h3, st.apart (some_ne h3) h4, h5, h6.step st⟩
    · have hl := (List.getElem?_eq_some_iff.mp e).1
      simp at hl
      have : i = L.length := by omega
      subst this
      rw [List.getElem?_append_right (Nat.le_refl _)] at e
      simp at e
      subst e
      rw [nwId_same]
      exact ho
  · rcases alive_push ai with ⟨hi, ai⟩ | hi <;> rcases alive_push aj with ⟨hj, aj⟩ | hj
    · rw [nwId_ne (Nat.ne_of_lt hi), nwId_ne (Nat.ne_of_lt hj)] at e
      exact r.inj i j ai aj e
    · rw [nwId_ne (Nat.ne_of_lt hi), hj, nwId_same] at e
      exact absurd (e ▸ hp) (r.there ai)
    · rw [nwId_ne (Nat.ne_of_lt hj), hi, nwId_same] at e
      exact absurd (e ▸ hp) (r.there aj)
    · rw [hi, hj]
  · rcases alive_push ai with ⟨hi, ai⟩ | hi
    · rw [nwId_ne (Nat.ne_of_lt hi)] at z
      exact r.nr i ai z
    · rw [hi, nwId_same] at z
      exact r.res p z hp
theorem alive_set {o : O} {i j : Nat} (h : Alive (L.set i o) j) (hi : Alive L i) : Alive L j := by
  by_cases e : j = i
  · rw [e]; exact hi
  · obtain ⟨u, q, hl⟩ := h
    rw [List.getElem?_set_ne (Ne.symm e)] at q
    exact ⟨u, q, hl⟩
theorem Step.write {o : O} {i : Nat} {u : HO} (hi : Alive L i) : Step m L H m (L.set i o) (upd H (m.m i) u) where
  len := by simp
  ids := fun _ _ => rfl
  rs := ⟨fun _ h => h, fun _ h => .inl h⟩
  live := fun j _ al => alive_set al hi
  keep := fun a x h ap => by rw [upd_ne (fun e => ap i hi e.symm)]; exact h
  there := fun a h => by
    by_cases e : a = m.m i
    · rw [e, upd_same] at h; cases h
    · rw [upd_ne e] at h; exact h
  new := fun j h1 h2 => by
    have := h2.lt
    simp at this
    omega
/-- a numbered object changed -/
theorem RepL.write {o : O} {i : Nat} {u : HO} (r : RepL W m L H) (hi : Alive L i) (ho : RepO W m (L.set i o) (upd H (m.m i) u) (m.m i) o) : RepL W m (L.set i o) (upd H (m.m i) u) := by
  have st : Step m L H m (L.set i o) (upd H (m.m i) u) := Step.write hi
  refine ⟨fun j x e => ?_, fun j k aj ak e => r.inj j k (alive_set aj hi) (alive_set ak hi) e, fun a z n => r.res a z (st.there a n), fun j aj => r.nr j (alive_set aj hi)⟩
  by_cases hj : j = i
  · subst hj
    rw [List.getElem?_set_self hi.lt] at e
    cases e
    exact ho
  · rw [List.getElem?_set_ne (Ne.symm hj)] at e
    have q := r.ob j x e
    cases x with
    | dead => trivial
    | lst ds =>
      obtain ⟨vs, h, rv⟩ := q
      have ne : m.m j ≠ m.m i := fun z => hj (r.inj j i ⟨_, e, trivial⟩ hi z)
      exact ⟨vs, by rw [upd_ne ne]; exact h, rv.step st⟩
    | dct t ks vs =>
      obtain ⟨kv, vv, h, r1, r2⟩ := q
      have ne : m.m j ≠ m.m i := fun z => hj (r.inj j i ⟨_, e, trivial⟩ hi z)
      exact ⟨kv, vv, h.at fun o z => by rw [upd_ne ne]; exact z, r1.step st, r2.step st⟩
    | ins c fs =>
      obtain ⟨C, dx, gs, h1, h2, h3, h4, h5, h6⟩ := q
      have ne : m.m j ≠ m.m i := fun z => hj (r.inj j i ⟨_, e, trivial⟩ hi z)
      exact ⟨C, dx, gs, h1, by rw [upd_ne ne]; exact h2, st.keep _ _ h3 h4.1, st.apart (some_ne h3) h4, h5, h6.step st⟩
/-- a number given up -/
theorem Step.kill {i : Nat} (hi : Alive L i) : Step m L H m (L.set i .dead) H where
  len := by simp
  ids := fun _ _ => rfl
  rs := ⟨fun _ h => h, fun _ h => .inl h⟩
  live := fun j _ al => alive_set al hi
  keep := fun a x h _ => h
  there := fun a h => h
  new := fun j h1 h2 => by
    have := h2.lt
    simp at this
    omega
theorem RepL.kill {i : Nat} (r : RepL W m L H) (hi : Alive L i) : RepL W m (L.set i .dead) H := by
  have st : Step m L H m (L.set i .dead) H := Step.kill hi
  refine ⟨fun j x e => ?_, fun j k aj ak e => r.inj j k (alive_set aj hi) (alive_set ak hi) e, fun a z n => r.res a z (st.there a n), fun j aj => r.nr j (alive_set aj hi)⟩
  by_cases hj : j = i
  · subst hj
    rw [List.getElem?_set_self hi.lt] at e
    cases e
    trivial
  · rw [List.getElem?_set_ne (Ne.symm hj)] at e
    have q := r.ob j x e
    cases x with
    | dead => trivial
    | lst ds => obtain ⟨vs, h, rv⟩ := q; exact ⟨vs, h, rv.step st⟩
    | dct t ks vs => obtain ⟨kv, vv, h, r1, r2⟩ := q; exact ⟨kv, vv, h, r1.step st, r2.step st⟩
    | ins c fs => obtain ⟨C, dx, gs, h1, h2, h3, h4, h5, h6⟩ := q; exact ⟨C, dx, gs, h1, h2, h3, st.apart (some_ne h3) h4, h5, h6.step st⟩
theorem Apart.kill {i : Nat} (r : RepL W m L H) (hi : Alive L i) : Apart m (L.set i .dead) (m.m i) := ⟨fun j al e => by
  have hj : j = i := r.inj j i (alive_set al hi) hi e
  obtain ⟨u, q, hl⟩ := al
  rw [hj, List.getElem?_set_self hi.lt] at q
  cases q
  exact hl, r.nr i hi⟩

/-! ### a situation: where a body stands -/
/-- the entry -/
structure En where
  m : Nb
  L : Hl
  H : Hp
structure Sit (W : Wd) (B : Option En) (m : Nb) (L : Hl) (ds : Ds) (σ : _root_.L2.St) (H : Hp) : Prop where
  rl : RepL W m L H
  ln : ds.length = σ.length
  rs : ∀ (i : Nat) (d : D), ds[i]? = some (some d) → ∃ v, σ[i]? = some (some v) ∧ RepV W m L H v d
  st : ∀ b, B = some b → Step b.m b.L b.H m L H
variable {B : Option En} {ds : Ds} {σ : _root_.L2.St}
theorem Sit.nx (S : Sit W B m L ds σ H) (st : Step m L H m' L' H') (rl : RepL W m' L' H') : Sit W B m' L' ds σ H' :=
  ⟨rl, S.ln, fun i d e => let ⟨v, h, r⟩ := S.rs i d e; ⟨v, h, r.step st⟩, fun b e => (S.st b e).trans st⟩
theorem Sit.set (S : Sit W B m L ds σ H) {i : Nat} {v : V} {d : D} (r : RepV W m L H v d) : Sit W B m L (ds.set i (some d)) (σ.set i (some v)) H :=
  ⟨S.rl, by simpa using S.ln, fun j e he => by
    by_cases hj : j = i
    · subst hj
      have hl : j < ds.length := by have := (List.getElem?_eq_some_iff.mp he).1; simpa using this
      rw [List.getElem?_set_self hl] at he
      cases he
      exact ⟨v, by rw [List.getElem?_set_self (by rw [← S.ln]; exact hl)], r⟩
    · rw [List.getElem?_set_ne (Ne.symm hj)] at he
      rw [List.getElem?_set_ne (Ne.symm hj)]
      exact S.rs j e he, S.st⟩
end

/-! ### readings over data -/
abbrev QE := D → Hl → Prop
/-- an expression's -/
abbrev TD := Ds → Hl → QE → Prop
abbrev TDs := Ds → Hl → (List D → Hl → Prop) → Prop
def lE (W : Wd) (B : Option En) (t : TD) : TE := fun σ H Q => ∃ (m : Nb) (L : Hl) (ds : Ds) (Qd : QE), Sit W B m L ds σ H ∧ t ds L Qd ∧
  ∀ d L' v m' H', Qd d L' → Step m L H m' L' H' → RepL W m' L' H' → RepV W m' L' H' v d → Q v H'
def lA (W : Wd) (B : Option En) (t : TDs) : TA := fun σ H Q => ∃ (m : Nb) (L : Hl) (ds : Ds) (Qd : List D → Hl → Prop), Sit W B m L ds σ H ∧ t ds L Qd ∧
  ∀ d L' v m' H', Qd d L' → Step m L H m' L' H' → RepL W m' L' H' → RepVs W m' L' H' v d → Q v H'

abbrev DE (X : Cx) (W : Wd) (B : Option En) (e : Expr) (t : TD) : Prop := PE X e (lE W B t)
abbrev DA (X : Cx) (W : Wd) (B : Option En) (es : List Expr) (t : TDs) : Prop := PA X es (lA W B t)

section
variable {X : Cx} {W : Wd} {B : Option En}
/-- from a rule of the hand layer -/
theorem peI {e : Expr} {t t' : TE} (h : PE X e t) (k : ∀ σ H Q, t' σ H Q → t σ H Q) : PE X e t' := ⟨fun pins s σ H Q I q => h.run pins s σ H Q I (k σ H Q q)⟩
theorem ptI {e : Expr} {t t' : TT} (h : PT X e t) (k : ∀ σ H Q, t' σ H Q → t σ H Q) : PT X e t' := ⟨fun pins s σ H Q I q => h.run pins s σ H Q I (k σ H Q q)⟩
theorem paI {es : List Expr} {t t' : TA} (h : PA X es t) (k : ∀ σ H Q, t' σ H Q → t σ H Q) : PA X es t' := ⟨fun pos pins s σ H Q I q => h.run pos pins s σ H Q I (k σ H Q q)⟩

def dVar (i : Nat) : TD := fun ds L Q => ∃ d, ds[i]? = some (some d) ∧ Q d L
def dC (d : D) : TD := fun _ L Q => Q d L
theorem de_var {e : Expr} {i : Nat} (h : PE X e (tVar i)) : DE X W B e (dVar i) := peI h fun σ H Q ⟨m, L, ds, Qd, S, ⟨d, hd, q⟩, k⟩ => by
  obtain ⟨v, hv, r⟩ := S.rs i d hd
  exact ⟨v, hv, k d L v m H q Step.refl S.rl r⟩
theorem de_int {e : Expr} {i : Int} (h : PE X e (tC (.int i))) : DE X W B e (dC (.int i)) := peI h fun σ H Q ⟨m, L, ds, Qd, S, q, k⟩ => k _ L _ m H q Step.refl S.rl (.int i)
theorem de_bl {e : Expr} {b : Bool} (h : PE X e (tC (.bl b))) : DE X W B e (dC (.bl b)) := peI h fun σ H Q ⟨m, L, ds, Qd, S, q, k⟩ => k _ L _ m H q Step.refl S.rl (.bl b)
theorem de_non {e : Expr} (h : PE X e (tC .non)) : DE X W B e (dC .non) := peI h fun σ H Q ⟨m, L, ds, Qd, S, q, k⟩ => k _ L _ m H q Step.refl S.rl .non
theorem de_str {e : Expr} {x : Str} (hx : PyData.strOk x = true) (h : PE X e (tC (.str x))) : DE X W B e (dC (.str x)) := peI h fun σ H Q ⟨m, L, ds, Qd, S, q, k⟩ => k _ L _ m H q Step.refl S.rl (.str x hx)

/-! ### two values in a row, by a rule on values -/
abbrev OD := Hl → D → D → (D → Prop) → Prop
/-- the rule r of the hand layer serves the operation o on data -/
def Op2 (W : Wd) (r : R2) (o : OD) : Prop := ∀ (m : Nb) (L : Hl) (H : Hp) (x y : D) (v u : V) (Q : VK) (Qd : D → Prop), RepL W m L H → RepV W m L H v x → RepV W m L H u y → o L x y Qd →
  (∀ z v' H', Qd z → Nx W m L H H' → RepV W m L H' v' z → Q v' H') → r v u H Q
def d2 (o : OD) (ta tb : TD) : TD := fun ds L Q => ta ds L fun x L1 => tb ds L1 fun y L2 => o L2 x y fun z => Q z L2
theorem tOp_of {r : R2} {o : OD} (ho : Op2 W r o) {ta tb : TD} {σ : _root_.L2.St} {H : Hp} {Q : VK} (h : lE W B (d2 o ta tb) σ H Q) : tOp r (lE W B ta) (lE W B tb) σ H Q := by
  obtain ⟨m, L, ds, Qd, S, q, k⟩ := h
  refine ⟨m, L, ds, _, S, q, fun x L1 v m1 H1 q1 st1 rl1 rv => ⟨m1, L1, ds, _, S.nx st1 rl1, q1, fun y L2 u m2 H2 q2 st2 rl2 ru => ?_⟩⟩
  exact ho m2 L2 H2 x y v u Q _ rl2 (rv.step st2) ru q2 fun z v' H' qz n rz => k z L2 v' m2 H' qz ((st1.trans st2).trans n.st) n.rl rz
theorem de_bin {a b : Expr} {op : Operator} {pos : Pos} {r : R2} {o : OD} {ta tb : TD} (hr : OpR X (binaryOp op) r) (ho : Op2 W r o) (ha : DE X W B a ta) (hb : DE X W B b tb) : DE X W B (.BinOp a op b pos) (d2 o ta tb) :=
  peI (pe_op hr ha hb) fun σ H Q h => tOp_of ho h
theorem de_cmp {a b : Expr} {op : CmpOp} {pos : Pos} {r : R2} {o : OD} {ta tb : TD} (hr : OpR X (compareOp op) r) (ho : Op2 W r o) (ha : DE X W B a ta) (hb : DE X W B b tb) (hm : behindInMarks op b = false) : DE X W B (.Compare a [op] [b] pos) (d2 o ta tb) :=
  peI (pe_cmpR hr ha hb hm) fun σ H Q h => tOp_of ho h
end
end Nr
namespace Nr
open PySem PySem.Spec PyProof.Rows L2
/-! ### a place that is reserved: a list that is being made -/
def Nb.res (m : Nb) (p : Addr) : Nb := { m with r := p :: m.r }
section
variable {W : Wd} {m : Nb} {L : Hl} {H : Hp} {p : Addr}
/-- values stand in another numbering, if what they are apart from is -/
theorem RepV.renum {m' : Nb} {L' : Hl} {H' : Hp} (hk : ∀ a o, H a = some o → Apart m L a → H' a = some o ∧ Apart m' L' a) (hl : L.length ≤ L'.length) (hi : ∀ i, i < L.length → m'.m i = m.m i) {v : V} {d : D} (h : RepV W m L H v d) : RepV W m' L' H' v d := by
  refine RepV.rec (motive_1 := fun v d _ => RepV W m' L' H' v d) (motive_2 := fun vs ds _ => RepVs W m' L' H' vs ds) .non .bl .int .str ?_ ?_ ?_ ?_ ?_ ?_ ?_ ?_ .nil ?_ h
  · intro a vs ds hr _ ap ih
    rcases hr with hr | ⟨o, hr⟩
    · exact .tup (.inl (hk a _ hr ap).1) ih (hk a _ hr ap).2
    · exact .tup (.inr ⟨o, (hk a _ hr ap).1⟩) ih (hk a _ hr ap).2
  · intro a vs ds hr _ ih
    exact .tupK hr ih
  · intro a vs ds hr _ ap ih
    exact .lst (hk a _ hr ap).1 ih (hk a _ hr ap).2
  · intro a o vs ds hr _ ap ih
    exact .scr (hk a _ hr ap).1 ih (hk a _ hr ap).2
  · intro a vs ds hr _ ih
    exact .scrK hr ih
  · intro a t kv vv ks vs hr _ _ ap i1 i2
    have ne : ∃ o, H a = some o := Option.ne_none_iff_exists'.mp hr.ne
    obtain ⟨o, e⟩ := ne
    exact .dct (hr.at fun o h => (hk a o h ap).1) i1 i2 (hk a _ e ap).2
  · intro i h
    have e := hi i h
    rw [← e]
    exact .obj (Nat.lt_of_lt_of_le h hl)
  · intro a c ⟨C, h1, h2⟩ ap
    exact .exc ⟨C, h1, (hk a _ h2 ap).1⟩ (hk a _ h2 ap).2
  · intro v vs d ds _ _ i1 i2
    exact .cons i1 i2
theorem RepVs.renum {m' : Nb} {L' : Hl} {H' : Hp} (hk : ∀ a o, H a = some o → Apart m L a → H' a = some o ∧ Apart m' L' a) (hl : L.length ≤ L'.length) (hi : ∀ i, i < L.length → m'.m i = m.m i) : ∀ {vs : List V} {ds : List D}, RepVs W m L H vs ds → RepVs W m' L' H' vs ds
  | _, _, .nil => .nil
  | _, _, .cons h r => .cons (h.renum hk hl hi) (RepVs.renum hk hl hi r)
theorem RepO.renum {m' : Nb} {L' : Hl} {H' : Hp} (hk : ∀ a o, H a = some o → Apart m L a → H' a = some o ∧ Apart m' L' a) (hl : L.length ≤ L'.length) (hi : ∀ i, i < L.length → m'.m i = m.m i) {a : Addr} {o : O} (ha : ∀ u, H a = some u → H' a = some u) (h : RepO W m L H a o) : RepO W m' L' H' a o := by
  cases o with
  | dead => trivial
  | lst ds => obtain ⟨vs, h1, h2⟩ := h; exact ⟨vs, ha _ h1, h2.renum hk hl hi⟩
  | dct t ks vs => obtain ⟨kv, vv, h1, h2, h3⟩ := h; exact ⟨kv, vv, h1.at ha, h2.renum hk hl hi, h3.renum hk hl hi⟩
  | ins c fs => obtain ⟨C, dx, gs, h1, h2, h3, h4, h5, h6⟩ := h; exact ⟨C, dx, gs, h1, ha _ h2, (hk _ _ h3 h4).1, (hk _ _ h3 h4).2, h5, h6.renum hk hl hi⟩
/-- a new place is reserved -/
theorem resv_hk {o : HO} (hp : H p = none) : ∀ a u, H a = some u → Apart m L a → (upd H p o) a = some u ∧ Apart (m.res p) L a := fun a u e ap => by
  have ne : a ≠ p := ne_of_none e hp
  refine ⟨by rw [upd_ne ne]; exact e, ap.1, fun z => ?_⟩
  rcases List.mem_cons.mp z with z | z
  · exact ne z
  · exact ap.2 z
theorem RepVs.resv {o : HO} {vs : List V} {ds : List D} (hp : H p = none) (h : RepVs W m L H vs ds) : RepVs W (m.res p) L (upd H p o) vs ds := h.renum (resv_hk hp) (Nat.le_refl _) fun _ _ => rfl
theorem RepV.resv {o : HO} {v : V} {d : D} (hp : H p = none) (h : RepV W m L H v d) : RepV W (m.res p) L (upd H p o) v d := h.renum (resv_hk hp) (Nat.le_refl _) fun _ _ => rfl
theorem Step.resv {o : HO} (hp : H p = none) : Step m L H (m.res p) L (upd H p o) where
  len := Nat.le_refl _
  ids := fun _ _ => rfl
  rs := ⟨fun _ h => List.mem_cons_of_mem _ h, fun a h => (List.mem_cons.mp h).elim (fun e => .inr (e ▸ hp)) .inl⟩
  live := fun _ _ h => h
  keep := fun a u h _ => by rw [upd_ne (ne_of_none h hp)]; exact h
  there := (Step.laid (m := m) (L := L) hp).there
  new := fun _ h1 h2 => absurd h2.lt (Nat.not_lt.mpr h1)
theorem RepL.resv {o : HO} (r : RepL W m L H) (hp : H p = none) : RepL W (m.res p) L (upd H p o) := by
  refine ⟨fun i x e => (r.ob i x e).renum (resv_hk hp) (Nat.le_refl _) (fun _ _ => rfl) fun u h => by rw [upd_ne (ne_of_none h hp)]; exact h, r.inj, fun a z n => ?_, fun i ai z => ?_⟩
  · rcases List.mem_cons.mp z with z | z
    · rw [z, upd_same] at n; cases n
    · by_cases e : a = p
      · rw [e, upd_same] at n; cases n
      · rw [upd_ne e] at n; exact r.res a z n
  · rcases List.mem_cons.mp z with z | z
    · exact (r.free hp).1 i ai z
    · exact r.nr i ai z
/-- .. and no more -/
def Nb.unr (m : Nb) (p : Addr) : Nb := { m with r := m.r.filter fun a => decide (a ≠ p) }
theorem mem_unr {a : Addr} : a ∈ (m.unr p).r ↔ a ∈ m.r ∧ a ≠ p := by
  unfold Nb.unr
  simp
theorem unr_hk : ∀ a u, H a = some u → Apart m L a → H a = some u ∧ Apart (m.unr p) L a := fun a u e ap => ⟨e, ap.1, fun z => ap.2 (mem_unr.mp z).1⟩
theorem RepVs.unr {vs : List V} {ds : List D} (h : RepVs W m L H vs ds) : RepVs W (m.unr p) L H vs ds := h.renum unr_hk (Nat.le_refl _) fun _ _ => rfl
theorem RepL.unr (r : RepL W m L H) : RepL W (m.unr p) L H :=
  ⟨fun i x e => (r.ob i x e).renum unr_hk (Nat.le_refl _) (fun _ _ => rfl) fun u h => h, r.inj, fun a z => r.res a (mem_unr.mp z).1, fun i ai z => r.nr i ai (mem_unr.mp z).1⟩
theorem Step.unr {m' : Nb} {L' : Hl} {H' : Hp} (r : RepL W m L H) (st : Step m L H m' L' H') (hp : H p = none) : Step m L H (m'.unr p) L' H' :=
  ⟨st.len, st.ids, ⟨fun a z => mem_unr.mpr ⟨st.rs.1 a z, fun e => r.res a z (e ▸ hp)⟩, fun a z => st.rs.2 a (mem_unr.mp z).1⟩, st.live, st.keep, st.there, st.new⟩
/-- .. or is numbered -/
theorem num_hk {o : O} (ap0 : ApN m L p) (hr : p ∈ m.r) : ∀ a u, H a = some u → Apart m L a → H a = some u ∧ Apart (nwId (m.unr p) L.length p) (L ++ [o]) a := fun a u e ap => by
  refine ⟨e, fun i ai => ?_, fun z => ap.2 (mem_unr.mp z).1⟩
  rcases alive_push ai with ⟨hi, ai⟩ | hi
  · rw [nwId_ne (Nat.ne_of_lt hi)]; exact ap.1 i ai
  · rw [hi, nwId_same]; exact fun z => ap.2 (z ▸ hr)
theorem RepVs.num {o : O} {vs : List V} {ds : List D} (ap0 : ApN m L p) (hr : p ∈ m.r) (h : RepVs W m L H vs ds) : RepVs W (nwId (m.unr p) L.length p) (L ++ [o]) H vs ds :=
  h.renum (num_hk ap0 hr) (by simp) fun i hi => nwId_ne (Nat.ne_of_lt hi)
theorem RepL.num {o : O} (r : RepL W m L H) (ap0 : ApN m L p) (hr : p ∈ m.r) (ho : RepO W (nwId (m.unr p) L.length p) (L ++ [o]) H p o) : RepL W (nwId (m.unr p) L.length p) (L ++ [o]) H := by
  refine ⟨fun i x e => ?_, fun i j ai aj e => ?_, fun a z => r.res a (mem_unr.mp z).1, fun i ai z => ?_⟩
  · by_cases hi : i < L.length
    · rw [List.getElem?_append_left hi] at e
      rw [nwId_ne (Nat.ne_of_lt hi)]
      exact (r.ob i x e).renum (num_hk ap0 hr) (by simp) (fun i hi => nwId_ne (Nat.ne_of_lt hi)) fun u h => h
    · have hl := (List.getElem?_eq_some_iff.mp e).1
      simp at hl
      have : i = L.length := by omega
      subst this
      rw [List.getElem?_append_right (Nat.le_refl _)] at e
      simp at e
      subst e
      rw [nwId_same]
      exact ho
  · rcases alive_push ai with ⟨hi, ai⟩ | hi <;> rcases alive_push aj with ⟨hj, aj⟩ | hj
    · rw [nwId_ne (Nat.ne_of_lt hi), nwId_ne (Nat.ne_of_lt hj)] at e
      exact r.inj i j ai aj e
    · rw [nwId_ne (Nat.ne_of_lt hi), hj, nwId_same] at e
      exact absurd e (ap0 i ai)
    · rw [nwId_ne (Nat.ne_of_lt hj), hi, nwId_same] at e
      exact absurd e.symm (ap0 j aj)
    · rw [hi, hj]
  · rcases alive_push ai with ⟨hi, ai⟩ | hi
    · rw [nwId_ne (Nat.ne_of_lt hi)] at z
      exact r.nr i ai (mem_unr.mp z).1
    · rw [hi, nwId_same] at z
      exact (mem_unr.mp z).2 rfl
end
end Nr

/-! The small language: what is checked against the text, and what it does to data. -/
namespace Nr
open PySem PySem.Spec PyProof.Rows L2

inductive B2 where | add | sub | mul | mod | fdiv | pow
  deriving DecidableEq
inductive C2 where | eq | ne | lt | le | gt | ge | is | isnot | isin | notin
  deriving DecidableEq
inductive Bi where | len | abs | min | max | sum | tuple | int | all | any
  deriving DecidableEq
inductive Ty where | int | bool | str | tuple | list | dict | seq | cls (c : Str)
  deriving DecidableEq
inductive Mt where | append | pop | extend | insert | index
  deriving DecidableEq
mutual
inductive IG where | n (i : Nat) | t (gs : IGs)
inductive IGs where | nil | cons (g : IG) (gs : IGs)
end
mutual
inductive IE where
  | var (i : Nat) | int (i : Int) | str (x : Str) | bl (b : Bool) | non | gint (x : Str) (i : Int) | omit
  | tup (es : IEs) | frz (f : IF) | newl (f : IF) | frzd (f : ID) | newd (f : ID)
  | bin (o : B2) (a b : IE) | cmp (o : C2) (a b : IE) | chain (o o' : C2) (a b c : IE)
  | neg (a : IE) | not (a : IE) | and (es : IEs) | or (es : IEs) | ite (c a b : IE)
  | idx (a b : IE) | slc (a lo hi : IE)
  | call (f : Str) (es : IEs) | callk (f : Str) (es ks : IEs) (perm : List Nat)
  | bi (b : Bi) (es : IEs) | tupr (r : IR) | isi (a : IE) (t : Ty)
  | meth (m : Mt) (a : IE) (es : IEs)
/-- a new list -/
inductive IF where
  | disp (es : IEs) | of (e : IE) | rng (r : IR) | sorted (e : IE) | cat (a b : IE) | rep (a b : IE)
  | lc (own : List Nat) (e : IE) (g : IG) (it : II) (ifs : IEs)
  | lc2 (own own1 : List Nat) (e : IE) (g : IG) (it : II) (ifs : IEs) (g1 : IG) (it1 : II) (ifs1 : IEs)
/-- a new dict -/
inductive ID where
  | nil (t : Bool) | dc (t : Bool) (own : List Nat) (k v : IE) (g : IG) (it : II) (ifs : IEs) | of (e : IE)
inductive IEs where
  | nil | cons (e : IE) (es : IEs)
inductive II where
  | seq (e : IE) | rng (r : IR) | enum (a : IE) | zip (a b : IE)
/-- range(b), range(a, b) -/
inductive IR where
  | one (b : IE) | two (a b : IE)
end
mutual
inductive IS where
  | pass | expr (e : IE) | asg (g : IG) (e : IE) | par (is : List Nat) (es : IEs)
  | seti (o i e : IE) | aug (i : Nat) (e : IE)
  | ret (e : IE) | ret0 | ite (c : IE) (a b : ISs) | for_ (g : IG) (it : II) (b : ISs) | while_ (c : IE) (b : ISs)
  | brk | cont | raise (c : Str) | try_ (b : ISs) (c : Str) (i j : Nat)
inductive ISs where
  | nil | cons (s : IS) (r : ISs)
end

/-! ### what values do -/
/-- lists by their numbers, at the top -/
def res (L : Hl) : D → D
  | .obj i => match L[i]? with
    | some (.lst xs) => .lst xs
    | some (.dct t ks vs) => .dct t ks vs
    | _ => .obj i
  | d => d
/-- data that compare -/
def toP : D → PyData
  | .non => .none
  | .bl b => .bool b
  | .int i => .int i
  | .str x => .str x
  | .tup xs => .tuple (toPs xs)
  | .lst xs => .list (toPs xs)
  | _ => .none
where toPs : List D → List PyData
  | [] => []
  | x :: xs => toP x :: toPs xs
/-- no object of a number, no dict: of this depth at most -/
def plain : Nat → D → Bool
  | _, .non => true
  | _, .bl _ => true
  | _, .int _ => true
  | _, .str _ => true
  | n + 1, .tup xs => xs.all (plain n)
  | n + 1, .lst xs => xs.all (plain n)
  | _, _ => false
def deq (x y : D) : Bool := PyData.eqv (toP x) (toP y)
def dlt (x y : D) : Bool := PySem.W.dataLt (toP x) (toP y)
def alikeD (x y : D) : Bool := PySem.W.alike (toP x) (toP y)
/-- the lesser of two at each place: what min does -/
def isFlat : D → Bool
  | .non | .bl _ | .int _ | .str _ => true
  | _ => false

def truthV (L : Hl) (d : D) : Option Bool :=
  match res L d with
  | .non => some false
  | .bl b => some b
  | .int i => some (i != 0)
  | .tup xs => some (!xs.isEmpty)
  | .lst xs => some (!xs.isEmpty)
  | .scr xs => some (!xs.isEmpty)
  | _ => none
def truthK (L : Hl) (d : D) (Q : Bool → Prop) : Prop := ∃ b, truthV L d = some b ∧ Q b
def mulOk (i j : Int) : Prop := CMul i j ∨ CMulW i j
def addK (L : Hl) (x y : D) (Q : D → Prop) : Prop :=
  match res L x, res L y with
  | .int i, .int j => Q (.int (i + j))
  | .tup a, .tup b => a.length + b.length ≤ sizeLine ∧ Q (.tup (a ++ b))
  | .lst a, .lst b => a.length + b.length ≤ sizeLine ∧ Q (.lst (a ++ b))
  | _, _ => False
def mulK (L : Hl) (x y : D) (Q : D → Prop) : Prop :=
  match res L x, res L y with
  | .int i, .int j => mulOk i j ∧ Q (.int (i * j))
  | .lst a, .int k => (-(2 ^ 63) ≤ k ∧ k < 2 ^ 63 ∧ a.length * k.toNat ≤ sizeLine) ∧ Q (.lst (List.replicate k.toNat a).flatten)
  | .tup a, .int k => (a ≠ [] ∧ 2 ≤ k ∧ k ≤ 1000 ∧ a.length ≤ 1000) ∧ Q (.tup (List.replicate k.toNat a).flatten)
  | _, _ => False
def intK (C : Int → Int → Prop) (g : Int → Int → D) (L : Hl) (x y : D) (Q : D → Prop) : Prop :=
  match res L x, res L y with
  | .int i, .int j => C i j ∧ Q (g i j)
  | _, _ => False
def powC (i j : Int) : Prop := 0 ≤ j ∧ j ≤ 1000000 ∧ i.natAbs < 2 ^ 64
def binK : B2 → Hl → D → D → (D → Prop) → Prop
  | .add => addK
  | .sub => intK (fun _ _ => True) fun i j => .int (i - j)
  | .mul => mulK
  | .mod => intK (fun _ j => 0 < j) fun i j => .int (i % j)
  | .fdiv => intK CDivW fun i j => .int (i / j)
  | .pow => intK powC fun i j => .int (i ^ j.toNat)
def isNon : D → Bool
  | .non => true
  | _ => false
def isC (L : Hl) (x y : D) (Q : Bool → Prop) : Prop :=
  match y with
  | .non => Q (isNon x)
  | .bl b => (match x with
    | .bl a => Q (a == b)
    | _ => False)
  | _ => False
/-- whether an item is x -/
def hasD (x : D) (xs : List D) : Bool := xs.any fun z => deq z x
def cmpK (o : C2) (L : Hl) (x y : D) (Q : D → Prop) : Prop :=
  match o with
  | .eq => (plain 60 (res L x) = true ∧ plain 60 (res L y) = true) ∧ Q (.bl (deq (res L x) (res L y)))
  | .ne => (plain 60 (res L x) = true ∧ plain 60 (res L y) = true) ∧ Q (.bl (!deq (res L x) (res L y)))
  | .lt => (match res L x, res L y with
    | .int i, .int j => Q (.bl (decide (i < j)))
    | .tup a, .tup b => (plain 60 (.tup a) = true ∧ plain 60 (.tup b) = true ∧ alikeD (.tup a) (.tup b) = true) ∧ Q (.bl (dlt (.tup a) (.tup b)))
    | _, _ => False)
  | .le => (match res L x, res L y with
    | .int i, .int j => Q (.bl (decide (i ≤ j)))
    | _, _ => False)
  | .gt => (match res L x, res L y with
    | .int i, .int j => Q (.bl (decide (j < i)))
    | _, _ => False)
  | .ge => (match res L x, res L y with
    | .int i, .int j => Q (.bl (decide (j ≤ i)))
    | _, _ => False)
  | .is => isC L x y fun b => Q (.bl b)
  | .isnot => isC L x y fun b => Q (.bl (!b))
  | .isin => (match res L y with
    | .tup xs => (plain 60 x = true ∧ plain 60 (.tup xs) = true) ∧ Q (.bl (hasD x xs))
    | .lst xs => (plain 60 x = true ∧ plain 60 (.lst xs) = true) ∧ Q (.bl (hasD x xs))
    | _ => False)
  | .notin => (match res L y with
    | .tup xs => (plain 60 x = true ∧ plain 60 (.tup xs) = true) ∧ Q (.bl (!hasD x xs))
    | .lst xs => (plain 60 x = true ∧ plain 60 (.lst xs) = true) ∧ Q (.bl (!hasD x xs))
    | _ => False)
end Nr
namespace Nr
open PySem PySem.Spec PyProof.Rows L2
section
variable {W : Wd} {m : Nb} {L : Hl} {H : Hp} {v u : V} {x y : D}
theorem res_cases (x : D) : res L x = x ∨ ∃ i, x = .obj i := by
  cases x <;> first | exact .inl rfl | exact .inr ⟨_, rfl⟩
theorem res_obj (L : Hl) (i : Nat) : (∃ xs, L[i]? = some (.lst xs) ∧ res L (.obj i) = .lst xs) ∨ (∃ t ks vs, L[i]? = some (.dct t ks vs) ∧ res L (.obj i) = .dct t ks vs) ∨ res L (.obj i) = .obj i := by
  cases q : L[i]? with
  | none => exact .inr (.inr (by simp [res, q]))
  | some o =>
    cases o with
    | lst xs => exact .inl ⟨xs, rfl, by simp [res, q]⟩
    | dct t ks vs => exact .inr (.inl ⟨t, ks, vs, rfl, by simp [res, q]⟩)
    | dead => exact .inr (.inr (by simp [res, q]))
    | ins c fs => exact .inr (.inr (by simp [res, q]))
theorem res_lst (rl : RepL W m L H) (r : RepV W m L H v x) {a : List D} (e : res L x = .lst a) : ∃ p vs, v = .ref p ∧ H p = some (.lst vs) ∧ RepVs W m L H vs a := by
  cases r with
  | lst h rv ap => cases e; exact ⟨_, _, rfl, h, rv⟩
  | obj hi =>
    rename_i i
    rcases res_obj L i with ⟨xs, h, q⟩ | ⟨t, ks, vs, h, q⟩ | q <;> rw [q] at e <;> cases e
    obtain ⟨vs, h1, h2⟩ := rl.ob _ _ h
    exact ⟨_, vs, rfl, h1, h2⟩
  | _ => cases e
theorem res_scr (r : RepV W m L H v x) {a : List D} (e : res L x = .scr a) : ∃ p vs, v = .ref p ∧ SqL W.K H p vs ∧ RepVs W m L H vs a ∧ ((∃ o, H p = some (.frz o (.lst vs))) ∨ KLst W.K p vs) := by
  cases r with
  | scr h rv ap => cases e; exact ⟨_, _, rfl, .inl (.inr ⟨_, h⟩), rv, .inl ⟨_, h⟩⟩
  | scrK h rv => cases e; exact ⟨_, _, rfl, .inr h, rv, .inr h⟩
  | obj hi =>
    rename_i i
    rcases res_obj L i with ⟨xs, h, q⟩ | ⟨t, ks, vs, h, q⟩ | q <;> rw [q] at e <;> cases e
  | _ => cases e
theorem res_tup (r : RepV W m L H v x) {a : List D} (e : res L x = .tup a) : x = .tup a ∧ ∃ p vs, v = .ref p ∧ SqT W.K H p vs ∧ RepVs W m L H vs a := by
  cases r with
  | tup h rv ap => cases e; exact ⟨rfl, _, _, rfl, .inl h, rv⟩
  | tupK h rv => cases e; exact ⟨rfl, _, _, rfl, .inr h, rv⟩
  | obj hi =>
    rename_i i
    rcases res_obj L i with ⟨xs, h, q⟩ | ⟨t, ks, vs, h, q⟩ | q <;> rw [q] at e <;> cases e
  | _ => cases e
theorem res_dct (rl : RepL W m L H) (r : RepV W m L H v x) {t : Bool} {ks vs : List D} (e : res L x = .dct t ks vs) : ∃ p kv vv, v = .ref p ∧ DctAt W H p t kv ks vv ∧ RepVs W m L H kv ks ∧ RepVs W m L H vv vs := by
  cases r with
  | dct h r1 r2 ap => cases e; exact ⟨_, _, _, rfl, h, r1, r2⟩
  | obj hi =>
    rename_i i
    rcases res_obj L i with ⟨xs, h, q⟩ | ⟨t, ks, vs, h, q⟩ | q <;> rw [q] at e <;> cases e
    obtain ⟨kv, vv, h1, h2, h3⟩ := rl.ob _ _ h
    exact ⟨_, kv, vv, rfl, h1, h2, h3⟩
  | _ => cases e
theorem res_int (r : RepV W m L H v x) {i : Int} (e : res L x = .int i) : v = .int i := by
  cases r with
  | int => cases e; rfl
  | obj hi =>
    rename_i i
    rcases res_obj L i with ⟨xs, h, q⟩ | ⟨t, ks, vs, h, q⟩ | q <;> rw [q] at e <;> cases e
  | _ => cases e
theorem res_bl (r : RepV W m L H v x) {i : Bool} (e : res L x = .bl i) : v = .bl i := by
  cases r with
  | bl => cases e; rfl
  | obj hi =>
    rename_i i
    rcases res_obj L i with ⟨xs, h, q⟩ | ⟨t, ks, vs, h, q⟩ | q <;> rw [q] at e <;> cases e
  | _ => cases e
theorem res_str (r : RepV W m L H v x) {i : Str} (e : res L x = .str i) : v = .str i ∧ PyData.strOk i = true := by
  cases r with
  | str _ h => cases e; exact ⟨rfl, h⟩
  | obj hi =>
    rename_i i
    rcases res_obj L i with ⟨xs, h, q⟩ | ⟨t, ks, vs, h, q⟩ | q <;> rw [q] at e <;> cases e
  | _ => cases e
theorem res_non (r : RepV W m L H v x) (e : res L x = .non) : v = .non := by
  cases r with
  | non => rfl
  | obj hi =>
    rename_i i
    rcases res_obj L i with ⟨xs, h, q⟩ | ⟨t, ks, vs, h, q⟩ | q <;> rw [q] at e <;> cases e
  | _ => cases e
/-- a new tuple, a new list -/
theorem rep_tup {p : Addr} {vs : List V} {ds : List D} (rl : RepL W m L H) (hp : H p = none) (r : RepVs W m L H vs ds) : RepV W m L (upd H p (.tup vs)) (.ref p) (.tup ds) :=
  .tup (.inl upd_same) (r.step (Step.laid hp)) (rl.free hp)
theorem rep_lst {p : Addr} {vs : List V} {ds : List D} (rl : RepL W m L H) (hp : H p = none) (r : RepVs W m L H vs ds) : RepV W m L (upd H p (.lst vs)) (.ref p) (.lst ds) :=
  .lst upd_same (r.step (Step.laid hp)) (rl.free hp)

/-! ### operators -/
def rAdd2 (K : PySem.W.Frag) : R2 := fun x y H Q => rI0 (fun i j => .int (i + j)) x y H Q ∨ (rCatA K x y H Q ∨ rCat x y H Q)
theorem or_add {X : Cx} : OpR X (binaryOp .Add) (rAdd2 X.K) := op_add.or (op_catA.or op_cat)
theorem b_add : Op2 W (rAdd2 W.K) addK := by
  intro m L H x y v u Q Qd rl rv ru h k
  unfold addK at h
  split at h
  · rename_i i j ex ey
    exact .inl ⟨i, j, res_int rv ex, res_int ru ey, k _ _ _ h (Nx.refl rl) (.int _)⟩
  · rename_i a b ex ey
    obtain ⟨rfl, p, vs, rfl, hv, r1⟩ := res_tup rv ex
    obtain ⟨rfl, q, us, rfl, hu, r2⟩ := res_tup ru ey
    refine .inr (.inl ⟨p, q, vs, us, rfl, rfl, hv, hu, by rw [r1.length, r2.length]; exact h.1, fun e => ?_, fun _ e => ?_, fun _ _ l hl => ?_⟩)
    · subst e
      cases r1
      exact k _ _ _ h.2 (Nx.refl rl) ru
    · subst e
      cases r2
      refine k _ _ _ h.2 (Nx.refl rl) ?_
      rw [List.append_nil]
      exact rv
    · exact k _ _ _ h.2 (Nx.laid rl hl) (rep_tup rl hl (r1.append r2))
  · rename_i a b ex ey
    obtain ⟨p, vs, rfl, hv, r1⟩ := res_lst rl rv ex
    obtain ⟨q, us, rfl, hu, r2⟩ := res_lst rl ru ey
    refine .inr (.inr ⟨p, q, vs, us, rfl, rfl, hv, hu, by rw [r1.length, r2.length]; exact h.1, fun l hl => ?_⟩)
    exact k _ _ _ h.2 (Nx.laid rl hl) (rep_lst rl hl (r1.append r2))
  · exact h.elim
def rMul2 (K : PySem.W.Frag) : R2 := fun x y H Q => rI CMul (fun i j => .int (i * j)) x y H Q ∨ (rI CMulW (fun i j => .int (i * j)) x y H Q ∨ (rRep x y H Q ∨ rRepT K x y H Q))
theorem or_mul {X : Cx} : OpR X (binaryOp .Mult) (rMul2 X.K) := op_mul.or (op_mulW.or (op_rep.or op_repT))
theorem b_mul : Op2 W (rMul2 W.K) mulK := by
  intro m L H x y v u Q Qd rl rv ru h k
  unfold mulK at h
  split at h
  · rename_i i j ex ey
    rcases h.1 with c | c
    · exact .inl ⟨i, j, res_int rv ex, res_int ru ey, c, k _ _ _ h.2 (Nx.refl rl) (.int _)⟩
    · exact .inr (.inl ⟨i, j, res_int rv ex, res_int ru ey, c, k _ _ _ h.2 (Nx.refl rl) (.int _)⟩)
  · rename_i a b ex ey
    obtain ⟨p, vs, rfl, hv, r1⟩ := res_lst rl rv ex
    refine .inr (.inr (.inl ⟨p, b, vs, rfl, res_int ru ey, hv, h.1.1, h.1.2.1, by rw [r1.length]; exact h.1.2.2, fun l hl => ?_⟩))
    exact k _ _ _ h.2 (Nx.laid rl hl) (rep_lst rl hl (r1.rep _))
  · rename_i a b ex ey
    obtain ⟨rfl, p, vs, rfl, hv, r1⟩ := res_tup rv ex
    obtain ⟨h1, h2, h3, h4⟩ := h.1
    refine .inr (.inr (.inr ⟨p, b, vs, rfl, res_int ru ey, hv, ?_, h2, h3, by rw [r1.length]; exact h4, fun l hl => ?_⟩))
    · intro e
      subst e
      cases r1
      exact h1 rfl
    · exact k _ _ _ h.2 (Nx.laid rl hl) (rep_tup rl hl (r1.rep _))
  · exact h.elim
theorem b_int {C : Int → Int → Prop} {g : Int → Int → Int} : Op2 W (rI C fun i j => .int (g i j)) (intK C fun i j => .int (g i j)) := by
  intro m L H x y v u Q Qd rl rv ru h k
  unfold intK at h
  split at h
  · rename_i i j ex ey
    exact ⟨i, j, res_int rv ex, res_int ru ey, h.1, k _ _ _ h.2 (Nx.refl rl) (.int _)⟩
  · exact h.elim
theorem b_int0 {g : Int → Int → Int} : Op2 W (rI0 fun i j => .int (g i j)) (intK (fun _ _ => True) fun i j => .int (g i j)) := by
  intro m L H x y v u Q Qd rl rv ru h k
  unfold intK at h
  split at h
  · rename_i i j ex ey
    exact ⟨i, j, res_int rv ex, res_int ru ey, k _ _ _ h.2 (Nx.refl rl) (.int _)⟩
  · exact h.elim
end
end Nr

/-! Comparisons, membership. -/
namespace Nr
open PySem PySem.Spec PyProof.Rows L2
section
variable {W : Wd} {m : Nb} {L : Hl} {H : Hp} {v u : V} {x y : D}
mutual
theorem dp_of : ∀ {v : V} {x : D}, RepV W m L H v x → ∀ n, plain n x = true → Dp W.K H v (toP x) ∧ (toP x).canLay0 = true ∧ (toP x).depth ≤ n
  | _, _, .non, n, _ => ⟨.non, by simp [toP, PyData.canLay0], by simp [toP, PyData.depth]⟩
  | _, _, .bl b, n, _ => ⟨.bl b, by simp [toP, PyData.canLay0], by simp [toP, PyData.depth]⟩
  | _, _, .int i, n, _ => ⟨.int i, by simp [toP, PyData.canLay0], by simp [toP, PyData.depth]⟩
  | _, _, .str x h, n, _ => ⟨.str x, by simp [toP, PyData.canLay0, h], by simp [toP, PyData.depth]⟩
  | _, _, .tup h r ap, n, hp => by
    cases n with
    | zero => simp [plain] at hp
    | succ n =>
      obtain ⟨h1, h2, h3⟩ := dps_of r n (by simpa only [plain] using hp)
      exact ⟨.tup (.inl h) h1, by simpa [toP, PyData.canLay0] using h2, by simp only [toP, PyData.depth]; omega⟩
  | _, _, .tupK h r, n, hp => by
    cases n with
    | zero => simp [plain] at hp
    | succ n =>
      obtain ⟨h1, h2, h3⟩ := dps_of r n (by simpa only [plain] using hp)
      exact ⟨.tup (.inr h) h1, by simpa [toP, PyData.canLay0] using h2, by simp only [toP, PyData.depth]; omega⟩
  | _, _, .lst h r ap, n, hp => by
    cases n with
    | zero => simp [plain] at hp
    | succ n =>
      obtain ⟨h1, h2, h3⟩ := dps_of r n (by simpa only [plain] using hp)
      exact ⟨.lst (SqL.of h) h1, by simpa [toP, PyData.canLay0] using h2, by simp only [toP, PyData.depth]; omega⟩
  | _, _, .scr _ _ _, n, hp => by cases n <;> simp [plain] at hp
  | _, _, .scrK _ _, n, hp => by cases n <;> simp [plain] at hp
  | _, _, .dct _ _ _ _, n, hp => by cases n <;> simp [plain] at hp
  | _, _, .obj _, n, hp => by cases n <;> simp [plain] at hp
  | _, _, .exc _ _, n, hp => by cases n <;> simp [plain] at hp
theorem dps_of : ∀ {vs : List V} {xs : List D}, RepVs W m L H vs xs → ∀ n, xs.all (plain n) = true → DpAll W.K H vs (toP.toPs xs) ∧ PyData.canLayAll0 (toP.toPs xs) = true ∧ PyData.depthAll (toP.toPs xs) ≤ n
  | _, _, .nil, n, _ => ⟨.nil, by simp [toP.toPs, PyData.canLayAll0], by simp [toP.toPs, PyData.depthAll]⟩
  | _, _, .cons r rs, n, hp => by
    rw [List.all_cons, Bool.and_eq_true] at hp
    obtain ⟨h1, h2, h3⟩ := dp_of r n hp.1
    obtain ⟨g1, g2, g3⟩ := dps_of rs n hp.2
    exact ⟨.cons h1 g1, by simp [toP.toPs, PyData.canLayAll0, h2, g2], by simp only [toP.toPs, PyData.depthAll]; omega⟩
end
/-- .. a list by its number too -/
theorem dp_res (rl : RepL W m L H) (r : RepV W m L H v x) {n : Nat} (hp : plain n (res L x) = true) : Dp W.K H v (toP (res L x)) ∧ (toP (res L x)).canLay0 = true ∧ (toP (res L x)).depth ≤ n := by
  rcases res_cases (L := L) x with e | ⟨i, rfl⟩
  · rw [e] at hp ⊢
    exact dp_of r n hp
  · rcases res_obj L i with ⟨xs, h, q⟩ | ⟨t, ks, vs, h, q⟩ | q
    · rw [q] at hp ⊢
      obtain ⟨p, vs, rfl, h1, h2⟩ := res_lst rl r q
      cases n with
      | zero => simp [plain] at hp
      | succ n =>
        obtain ⟨g1, g2, g3⟩ := dps_of h2 n (by simpa only [plain] using hp)
        exact ⟨.lst (SqL.of h1) g1, by simpa [toP, PyData.canLay0] using g2, by simp only [toP, PyData.depth]; omega⟩
    · rw [q] at hp
      cases n <;> simp [plain] at hp
    · rw [q] at hp
      cases n <;> simp [plain] at hp
theorem shaped_of {d : PyData} (h1 : d.canLay0 = true) {n : Nat} (h2 : d.depth ≤ n) (h3 : n ≤ 64) : SeqAt.shaped d = true := by
  unfold SeqAt.shaped
  rw [h1]
  simp
  omega
theorem c_eq : Op2 W (rEqD W.K) (cmpK .eq) := by
  intro m L H x y v u Q Qd rl rv ru h k
  obtain ⟨⟨h1, h2⟩, h⟩ := h
  obtain ⟨a1, a2, a3⟩ := dp_res rl rv h1
  obtain ⟨b1, b2, b3⟩ := dp_res rl ru h2
  exact ⟨_, _, a1, b1, shaped_of a2 a3 (by decide), shaped_of b2 b3 (by decide), k _ _ _ h (Nx.refl rl) (.bl _)⟩
theorem c_ne : Op2 W (rNeD W.K) (cmpK .ne) := by
  intro m L H x y v u Q Qd rl rv ru h k
  obtain ⟨⟨h1, h2⟩, h⟩ := h
  obtain ⟨a1, a2, a3⟩ := dp_res rl rv h1
  obtain ⟨b1, b2, b3⟩ := dp_res rl ru h2
  exact ⟨_, _, a1, b1, shaped_of a2 a3 (by decide), shaped_of b2 b3 (by decide), k _ _ _ h (Nx.refl rl) (.bl _)⟩

/-! ### order -/
def rLtD (K : PySem.W.Frag) : R2 := fun x y H Q => ∃ d e xs, d = PyData.tuple xs ∧ Dp K H x d ∧ Dp K H y e ∧ PySem.W.alike d e = true ∧ SeqAt.shaped d = true ∧ SeqAt.shaped e = true ∧ Q (.bl (PySem.W.dataLt d e)) H
theorem op_ltD {X : Cx} (hu : X.A.units + 64 < cLine) : OpR X (compareOp .Lt) (rLtD X.K) := by
  intro pins s σ H x y v u Q I rx ry h
  obtain ⟨d, e, xs, rfl, hd, he, al, sd, se, q⟩ := h
  obtain ⟨as, r1⟩ := Dp.reads I _ x v hd rx
  obtain ⟨bs, r2⟩ := Dp.reads I e y u he ry
  have hdep : (PyData.tuple xs).depth ≤ 64 := by
    unfold SeqAt.shaped at sd
    simp at sd
    exact sd.2
  have := PySem.W.rcLt_alike _ e X.A s v u as bs r1 r2 al (fun z => nomatch z) (by omega)
  exact this _ _ _ _ ⟨.bl _, H, I, rfl, q⟩

def rLt2 (K : PySem.W.Frag) : R2 := fun x y H Q => rI0 (fun i j => .bl (decide (i < j))) x y H Q ∨ rLtD K x y H Q
theorem or_lt {X : Cx} (hu : X.A.units + 64 < cLine) : OpR X (compareOp .Lt) (rLt2 X.K) := op_lt.or (op_ltD hu)
theorem c_lt : Op2 W (rLt2 W.K) (cmpK .lt) := by
  intro m L H x y v u Q Qd rl rv ru h k
  unfold cmpK at h
  dsimp only at h
  split at h
  · rename_i i j ex ey
    exact .inl ⟨i, j, res_int rv ex, res_int ru ey, k _ _ _ h (Nx.refl rl) (.bl _)⟩
  · rename_i a b ex ey
    obtain ⟨⟨h1, h2, h3⟩, h⟩ := h
    obtain ⟨rfl, _⟩ := res_tup rv ex
    obtain ⟨rfl, _⟩ := res_tup ru ey
    obtain ⟨a1, a2, a3⟩ := dp_of rv 60 h1
    obtain ⟨b1, b2, b3⟩ := dp_of ru 60 h2
    exact .inr ⟨_, _, _, rfl, a1, b1, h3, shaped_of a2 a3 (by decide), shaped_of b2 b3 (by decide), k _ _ _ h (Nx.refl rl) (.bl _)⟩
  · exact h.elim
theorem c_int {C : C2} {g : Int → Int → Bool} (hC : ∀ L x y Q, cmpK C L x y Q → ∃ i j, res L x = .int i ∧ res L y = .int j ∧ Q (.bl (g i j))) : Op2 W (rI0 fun i j => .bl (g i j)) (cmpK C) := by
  intro m L H x y v u Q Qd rl rv ru h k
  obtain ⟨i, j, ex, ey, h⟩ := hC _ _ _ _ h
  exact ⟨i, j, res_int rv ex, res_int ru ey, k _ _ _ h (Nx.refl rl) (.bl _)⟩
theorem c_le : Op2 W (rI0 fun i j => .bl (decide (i ≤ j))) (cmpK .le) := c_int (g := fun i j => decide (i ≤ j)) fun L x y Q h => by
  unfold cmpK at h
  dsimp only at h
  split at h
  · rename_i i j ex ey; exact ⟨i, j, ex, ey, h⟩
  · exact h.elim
theorem c_gt : Op2 W (rI0 fun i j => .bl (decide (j < i))) (cmpK .gt) := c_int (g := fun i j => decide (j < i)) fun L x y Q h => by
  unfold cmpK at h
  dsimp only at h
  split at h
  · rename_i i j ex ey; exact ⟨i, j, ex, ey, h⟩
  · exact h.elim
theorem c_ge : Op2 W (rI0 fun i j => .bl (decide (j ≤ i))) (cmpK .ge) := c_int (g := fun i j => decide (j ≤ i)) fun L x y Q h => by
  unfold cmpK at h
  dsimp only at h
  split at h
  · rename_i i j ex ey; exact ⟨i, j, ex, ey, h⟩
  · exact h.elim

/-! ### is -/
def rIs2 : R2 := fun x y H Q => (y = .non ∧ Q (.bl (decide (x = .non))) H) ∨ ∃ a b, x = .bl a ∧ y = .bl b ∧ Q (.bl (decide (a = b))) H
def rIsnot2 : R2 := fun x y H Q => (y = .non ∧ Q (.bl (!decide (x = .non))) H) ∨ ∃ a b, x = .bl a ∧ y = .bl b ∧ Q (.bl (!decide (a = b))) H
theorem or_is {X : Cx} : OpR X (compareOp .Is) rIs2 := op_isN.or op_is_bl
theorem or_isnot {X : Cx} : OpR X (compareOp .IsNot) rIsnot2 := op_notN.or op_isnot_bl
theorem non_iff (r : RepV W m L H v x) : decide (v = .non) = isNon x := by
  cases r <;> simp [isNon]
theorem c_is : Op2 W rIs2 (cmpK .is) := by
  intro m L H x y v u Q Qd rl rv ru h k
  have h : isC L x y fun b => Qd (.bl b) := h
  unfold isC at h
  cases ru with
  | non => exact .inl ⟨rfl, by rw [non_iff rv]; exact k _ _ _ h (Nx.refl rl) (.bl _)⟩
  | bl b =>
    dsimp only at h
    cases rv with
    | bl a =>
      refine .inr ⟨a, b, rfl, rfl, k _ _ _ h (Nx.refl rl) ?_⟩
      cases a <;> cases b <;> exact .bl _
    | _ => exact h.elim
  | _ => exact h.elim
theorem c_isnot : Op2 W rIsnot2 (cmpK .isnot) := by
  intro m L H x y v u Q Qd rl rv ru h k
  have h : isC L x y fun b => Qd (.bl (!b)) := h
  unfold isC at h
  cases ru with
  | non => exact .inl ⟨rfl, by rw [non_iff rv]; exact k _ _ _ h (Nx.refl rl) (.bl _)⟩
  | bl b =>
    dsimp only at h
    cases rv with
    | bl a =>
      refine .inr ⟨a, b, rfl, rfl, k _ _ _ h (Nx.refl rl) ?_⟩
      cases a <;> cases b <;> exact .bl _
    | _ => exact h.elim
  | _ => exact h.elim

/-! ### in -/
def rInT (K : PySem.W.Frag) : R2 := fun x y H Q => ∃ d ds, Dp K H x d ∧ Dp K H y (.tuple ds) ∧ SeqAt.shaped d = true ∧ SeqAt.shaped (.tuple ds) = true ∧ Q (.bl (ds.any fun z => PyData.eqv z d)) H
def rNotInT (K : PySem.W.Frag) : R2 := fun x y H Q => ∃ d ds, Dp K H x d ∧ Dp K H y (.tuple ds) ∧ SeqAt.shaped d = true ∧ SeqAt.shaped (.tuple ds) = true ∧ Q (.bl (!ds.any fun z => PyData.eqv z d)) H
theorem op_inT {X : Cx} (hu : X.A.units + 65 < cLine) : OpR X (compareOp .In) (rInT X.K) := by
  intro pins s σ H x y v u Q I rx ry ⟨d, ds, hd, he, sd, se, q⟩
  obtain ⟨as, g1⟩ := Dp.reads I d x v hd rx
  obtain ⟨bs, g2⟩ := Dp.reads I (.tuple ds) y u he ry
  exact SeqAt.in_tuple_reads g2 g1 (SeqAt.canLay_of_shaped se) (SeqAt.canLay_of_shaped sd) (PyProof.Rows.room_in_shaped sd hu) ⟨.bl _, H, I, rfl, q⟩
theorem op_notInT {X : Cx} (hu : X.A.units + 65 < cLine) : OpR X (compareOp .NotIn) (rNotInT X.K) := by
  intro pins s σ H x y v u Q I rx ry ⟨d, ds, hd, he, sd, se, q⟩
  obtain ⟨as, g1⟩ := Dp.reads I d x v hd rx
  obtain ⟨bs, g2⟩ := Dp.reads I (.tuple ds) y u he ry
  exact SeqAt.notIn_tuple_reads g2 g1 (SeqAt.canLay_of_shaped se) (SeqAt.canLay_of_shaped sd) (PyProof.Rows.room_in_shaped sd hu) ⟨.bl _, H, I, rfl, q⟩
theorem any_toPs (f : PyData → Bool) : ∀ xs : List D, (toP.toPs xs).any f = xs.any fun z => f (toP z)
  | [] => rfl
  | x :: xs => by simp only [toP.toPs, List.any_cons, any_toPs f xs]
end
end Nr

/-! What the small language does to data. -/
namespace Nr
open PySem PySem.Spec PyProof.Rows L2

abbrev XH := Str → Hl → Prop
/-- what the defs of the module do: the contracts -/
abbrev Phi := Str → List D → Hl → QE → XH → Prop
abbrev NoE : XH := fun _ _ => False

/-! ### values, more -/
def seqOf (L : Hl) (d : D) : Option (List D) :=
  match res L d with
  | .tup xs => some xs
  | .lst xs => some xs
  | .scr xs => some xs
  | _ => none
/-- a sequence's items -/
def seqK (L : Hl) (d : D) (Q : List D → Prop) : Prop :=
  match res L d with
  | .tup xs => Q xs
  | .lst xs => Q xs
  | .scr xs => Q xs
  | _ => False
def lenK (L : Hl) (d : D) (Q : D → Prop) : Prop :=
  match res L d with
  | .tup xs => Q (.int xs.length)
  | .lst xs => Q (.int xs.length)
  | .scr xs => Q (.int xs.length)
  | .str x => x.length ≤ sizeLine ∧ Q (.int x.length)
  | _ => False
/-- d[i] -/
def idxK (L : Hl) (d i : D) (Q : D → Prop) : Prop :=
  match res L d, i with
  | .tup xs, .int i => ∃ v, atI xs i = some v ∧ Q v
  | .lst xs, .int i => ∃ v, atI xs i = some v ∧ Q v
  | .scr xs, .int i => ∃ v, atI xs i = some v ∧ Q v
  | _, _ => False
def cutD (xs : List D) (lo hi : Option Int) : List D := (xs.drop (HT.sIx xs.length 0 lo)).take (HT.sIx xs.length xs.length hi - HT.sIx xs.length 0 lo)
def slcK (L : Hl) (d : D) (lo hi : Option Int) (Q : D → Prop) : Prop :=
  match res L d with
  | .tup xs => Q (.tup (cutD xs lo hi))
  | .lst xs => Q (.lst (cutD xs lo hi))
  | .scr xs => Q (.lst (cutD xs lo hi))
  | _ => False
inductive Tn where | non | bl | int | str | tup | lst | dct
  deriving DecidableEq
def tnOf (L : Hl) (d : D) : Option Tn :=
  match res L d with
  | .non => some .non
  | .bl _ => some .bl
  | .int _ => some .int
  | .str _ => some .str
  | .tup _ => some .tup
  | .lst _ => some .lst
  | .scr _ => some .lst
  | .dct _ _ _ => some .dct
  | _ => none
def tnIs : Ty → Tn → Bool
  | .int, .int => true
  | .int, .bl => true
  | .bool, .bl => true
  | .str, .str => true
  | .tuple, .tup => true
  | .list, .lst => true
  | .dict, .dct => true
  | .seq, .tup => true
  | .seq, .lst => true
  | _, _ => false
def isTy (t : Ty) (L : Hl) (d : D) (Q : Bool → Prop) : Prop :=
  match t with
  | .cls c => (match d with
    | .exc c' => Q (decide (c = c'))
    | _ => False)
  | t => ∃ n, tnOf L d = some n ∧ Q (tnIs t n)
/-- ints of a list -/
def intsOf : List D → Option (List Int)
  | [] => some []
  | .int i :: xs => (intsOf xs).map (i :: ·)
  | _ :: _ => none
def blsOf : List D → Option (List Bool)
  | [] => some []
  | .bl i :: xs => (blsOf xs).map (i :: ·)
  | _ :: _ => none
def leastD (x : D) (xs : List D) : D := xs.foldl (fun a z => if dlt z a = true then z else a) x
def mostD (x : D) (xs : List D) : D := xs.foldl (fun a z => if dlt a z = true then z else a) x
def sortD (xs : List D) : List D := xs.mergeSort fun a b => !dlt b a
/-- data that sorted takes -/
def sortable (xs : List D) : Prop := (xs.all (plain 60) = true ∧ xs.all (fun x => xs.all fun y => alikeD x y) = true) ∧ ((∀ x ∈ xs, ∃ i, x = .int i) ∨ ∀ x ∈ xs, ∃ y ys, x = .tup (y :: ys))
def biK (b : Bi) (L : Hl) (args : List D) (Q : D → Prop) : Prop :=
  match b, args with
  | .len, [x] => lenK L x Q
  | .abs, [.int i] => Q (.int (if i < 0 then -i else i))
  | .int, [.int i] => Q (.int i)
  | .int, [.bl b] => Q (.int (if b then 1 else 0))
  | .min, [.int i, .int j] => Q (.int (if j < i then j else i))
  | .max, [.int i, .int j] => Q (.int (if j > i then j else i))
  | .sum, [x] => (match res L x with
    | .lst xs => ∃ ns, intsOf xs = some ns ∧ Q (.int ns.sum)
    | _ => False)
  | .all, [x] => (match res L x with
    | .lst xs => ∃ bs, blsOf xs = some bs ∧ Q (.bl (bs.all id))
    | _ => False)
  | .any, [x] => (match res L x with
    | .lst xs => ∃ bs, blsOf xs = some bs ∧ Q (.bl (bs.any id))
    | _ => False)
  | .tuple, [x] => seqK L x fun xs => Q (.tup xs)
  | _, _ => False

/-- a list -/
def lstAt (L : Hl) (d : D) : Prop := ∃ xs, res L d = .lst xs
/-- the place of the first equal one -/
def firstAt (x : D) (xs : List D) : Option Nat := xs.findIdx? fun z => deq z x
def methK (t : Mt) (L : Hl) (x : D) (args : List D) (Q : QE) : Prop :=
  match t, x, args with
  | .append, .obj n, [v] => ∃ xs, L[n]? = some (.lst xs) ∧ xs.length < sizeLine ∧ Q .non (L.set n (.lst (xs ++ [v])))
  | .pop, .obj n, [] => ∃ xs y, L[n]? = some (.lst xs) ∧ xs[xs.length - 1]? = some y ∧ Q y (L.set n (.lst xs.dropLast))
  | .pop, .obj n, [.int i] => ∃ xs k y, L[n]? = some (.lst xs) ∧ -(2 ^ 63) ≤ i ∧ i < 2 ^ 63 ∧ seqIndex? i xs.length = some k ∧ xs[k]? = some y ∧ Q y (L.set n (.lst (xs.eraseIdx k)))
  | .extend, .obj n, [d] => ∃ xs ys, L[n]? = some (.lst xs) ∧ res L d = .lst ys ∧ d ≠ .obj n ∧ xs.length + ys.length ≤ sizeLine ∧ Q .non (L.set n (.lst (xs ++ ys)))
  | .insert, .obj n, [.int i, v] => ∃ xs, L[n]? = some (.lst xs) ∧ xs.length < sizeLine ∧ 0 ≤ i ∧ i < 2 ^ 63 ∧ Q .non (L.set n (.lst (xs.take i.toNat ++ [v] ++ xs.drop i.toNat)))
  | .index, d, [v] => ∃ xs j, res L d = .lst xs ∧ (plain 60 v = true ∧ plain 60 (.lst xs) = true) ∧ firstAt v xs = some j ∧ Q (.int (j : Nat)) L
  | _, _, _ => False

/-! ### walking -/
/-- what is walked: items that nothing changes, or a numbered list, that must stand as it stood -/
inductive Src where
  | fixed (xs : List D) | live (i : Nat) (xs : List D)
def Src.items : Src → List D
  | .fixed xs => xs
  | .live _ xs => xs
def Src.ok : Src → Hl → Prop
  | .fixed _, _ => True
  | .live i xs, L => L[i]? = some (.lst xs)
def srcK (L : Hl) (d : D) (Q : Src → Prop) : Prop :=
  match d with
  | .tup xs => Q (.fixed xs)
  | .lst xs => Q (.fixed xs)
  | .scr xs => Q (.fixed xs)
  | .obj i => (match L[i]? with
    | some (.lst xs) => Q (.live i xs)
    | _ => False)
  | _ => False
def rngD (a b : Int) : List D := (List.range (b - a).toNat).map fun i => .int (a + (i : Nat))
def smallR (a : Int) : Prop := -(2 ^ 62) ≤ a ∧ a < 2 ^ 62
def enumD : Nat → List D → List D
  | _, [] => []
  | n, x :: xs => .tup [.int (n : Int), x] :: enumD (n + 1) xs
def zipD : List D → List D → List D
  | x :: xs, y :: ys => .tup [x, y] :: zipD xs ys
  | _, _ => []
/-- a comprehension's loop -/
def lcR (s : Src) (t : D → Hl → (Option D → Hl → Prop) → Prop) (Q : List D → Hl → Prop) : List D → List D → Hl → Prop
  | [], acc, L => s.ok L ∧ Q acc L
  | x :: xs, acc, L => s.ok L ∧ t x L fun o L1 => match o with
    | none => lcR s t Q xs acc L1
    | some y => acc.length < sizeLine ∧ lcR s t Q xs (acc ++ [y]) L1
/-- the loop of the first clause of two -/
def lcR2 (s : Src) (t : D → List D → Hl → (List D → Hl → Prop) → Prop) (Q : List D → Hl → Prop) : List D → List D → Hl → Prop
  | [], acc, L => s.ok L ∧ Q acc L
  | x :: xs, acc, L => s.ok L ∧ t x acc L fun acc1 L1 => lcR2 s t Q xs acc1 L1
def wipeD (ds : Ds) : List Nat → Ds
  | [] => ds
  | v :: vs => (wipeD ds vs).set v none
mutual
def semG : IG → D → Ds → (Ds → Prop) → Prop
  | .n i, d, ds, k => k (ds.set i (some d))
  | .t gs, d, ds, k => (match d with
    | .tup xs => semGs gs xs ds k
    | _ => False)
def semGs : IGs → List D → Ds → (Ds → Prop) → Prop
  | .nil, [], ds, k => k ds
  | .cons g gs, x :: xs, ds, k => semG g x ds fun ds1 => semGs gs xs ds1 k
  | _, _, _, _ => False
end
def optI (d : D) (Q : Option Int → Prop) : Prop :=
  match d with
  | .int i => Q (some i)
  | _ => False
def IEs.len : IEs → Nat
  | .nil => 0
  | .cons _ es => es.len + 1
def isOmit : IE → Bool
  | .omit => true
  | _ => false
/-- a part of a slice -/
def partK (o : Bool) (t : Hl → QE → Prop) (L : Hl) (Q : Option Int → Hl → Prop) : Prop := if o = true then Q none L else t L fun x L1 => optI x fun o => Q o L1
/-- some of the arguments, put in the parameters' order -/
def permD (perm : List Nat) (xs : List D) : List D := perm.filterMap fun i => xs[i]?

section
variable (Φ : Phi)
mutual
def semE : IE → XH → Ds → Hl → QE → Prop
  | .var i, _, ds, L, Q => ∃ d, ds[i]? = some (some d) ∧ Q d L
  | .int i, _, _, L, Q => Q (.int i) L
  | .str x, _, _, L, Q => Q (.str x) L
  | .bl b, _, _, L, Q => Q (.bl b) L
  | .non, _, _, L, Q => Q .non L
  | .gint _ i, _, _, L, Q => Q (.int i) L
  | .omit, _, _, _, _ => False
  | .tup es, E, ds, L, Q => semEs es E ds L fun xs L1 => xs.length ≤ sizeLine ∧ Q (.tup xs) L1
  | .frz f, E, ds, L, Q => semF f E ds L fun xs L1 => Q (.lst xs) L1
  | .newl f, E, ds, L, Q => semF f E ds L fun xs L1 => Q (.obj L1.length) (L1 ++ [.lst xs])
  | .frzd f, E, ds, L, Q => semD f E ds L fun t ks vs L1 => Q (.dct t ks vs) L1
  | .newd f, E, ds, L, Q => semD f E ds L fun t ks vs L1 => Q (.obj L1.length) (L1 ++ [.dct t ks vs])
  | .bin o a b, E, ds, L, Q => semE a E ds L fun x L1 => semE b E ds L1 fun y L2 => binK o L2 x y fun z => Q z L2
  | .cmp o a b, E, ds, L, Q => semE a E ds L fun x L1 => semE b E ds L1 fun y L2 => cmpK o L2 x y fun z => Q z L2
  | .chain o o' a b c, E, ds, L, Q => semE a E ds L fun x L1 => semE b E ds L1 fun y L2 => cmpK o L2 x y fun z => (match z with
    | .bl true => semE c E ds L2 fun w L3 => cmpK o' L3 y w fun z => Q z L3
    | .bl false => Q (.bl false) L2
    | _ => False)
  | .neg a, E, ds, L, Q => semE a E ds L fun x L1 => (match x with
    | .int i => Q (.int (-i)) L1
    | _ => False)
  | .not a, E, ds, L, Q => semE a E ds L fun x L1 => truthK L1 x fun b => Q (.bl (!b)) L1
  | .and es, E, ds, L, Q => semAnd es E ds L Q
  | .or es, E, ds, L, Q => semOr es E ds L Q
  | .ite c a b, E, ds, L, Q => semE c E ds L fun x L1 => truthK L1 x fun k => if k = true then semE a E ds L1 Q else semE b E ds L1 Q
  | .idx a b, E, ds, L, Q => semE a E ds L fun x L1 => semE b E ds L1 fun y L2 => idxK L2 x y fun z => Q z L2
  | .slc a lo hi, E, ds, L, Q => semE a E ds L fun x L1 => partK (isOmit lo) (semE lo E ds) L1 fun l L2 => partK (isOmit hi) (semE hi E ds) L2 fun u L3 => slcK L3 x l u fun z => Q z L3
  | .call f es, E, ds, L, Q => semEs es E ds L fun xs L1 => Φ f xs L1 Q E
  | .callk f es ks perm, E, ds, L, Q => semEs es E ds L fun xs L1 => semEs ks E ds L1 fun ys L2 => (xs.length = es.len ∧ ys.length = ks.len) ∧ Φ f (permD perm (xs ++ ys)) L2 Q E
  | .bi b es, E, ds, L, Q => semEs es E ds L fun xs L1 => biK b L1 xs fun z => Q z L1
  | .tupr r, E, ds, L, Q => semR r E ds L fun i j L1 => RgOk i j ∧ Q (.tup (rngD i j)) L1
  | .isi a t, E, ds, L, Q => semE a E ds L fun x L1 => isTy t L1 x fun b => Q (.bl b) L1
  | .meth m a es, E, ds, L, Q => semE a E ds L fun x L1 => lstAt L1 x ∧ semEs es E ds L1 fun xs L2 => methK m L2 x xs Q
def semAnd : IEs → XH → Ds → Hl → QE → Prop
  | .nil, _, _, _, _ => False
  | .cons e .nil, E, ds, L, Q => semE e E ds L Q
  | .cons e es, E, ds, L, Q => semE e E ds L fun x L1 => truthK L1 x fun k => if k = true then semAnd es E ds L1 Q else Q x L1
def semOr : IEs → XH → Ds → Hl → QE → Prop
  | .nil, _, _, _, _ => False
  | .cons e .nil, E, ds, L, Q => semE e E ds L Q
  | .cons e es, E, ds, L, Q => semE e E ds L fun x L1 => truthK L1 x fun k => if k = true then Q x L1 else semOr es E ds L1 Q
def semEs : IEs → XH → Ds → Hl → (List D → Hl → Prop) → Prop
  | .nil, _, _, L, Q => Q [] L
  | .cons e es, E, ds, L, Q => semE e E ds L fun x L1 => semEs es E ds L1 fun xs L2 => Q (x :: xs) L2
/-- the tests of a comprehension -/
def semIf : IEs → XH → Ds → Hl → (Bool → Hl → Prop) → Prop
  | .nil, _, _, L, Q => Q true L
  | .cons e _, E, ds, L, Q => semE e E ds L fun x L1 => truthK L1 x fun b => Q b L1
def semF : IF → XH → Ds → Hl → (List D → Hl → Prop) → Prop
  | .disp es, E, ds, L, Q => semEs es E ds L fun xs L1 => xs.length ≤ sizeLine ∧ Q xs L1
  | .of e, E, ds, L, Q => semE e E ds L fun x L1 => seqK L1 x fun xs => Q xs L1
  | .rng r, E, ds, L, Q => semR r E ds L fun i j L1 => RgOk i j ∧ Q (rngD i j) L1
  | .sorted e, E, ds, L, Q => semE e E ds L fun x L1 => seqK L1 x fun xs => sortable xs ∧ Q (sortD xs) L1
  | .cat a b, E, ds, L, Q => semE a E ds L fun x L1 => semE b E ds L1 fun y L2 => (match res L2 x, res L2 y with
    | .lst xs, .lst ys => xs.length + ys.length ≤ sizeLine ∧ Q (xs ++ ys) L2
    | _, _ => False)
  | .rep a b, E, ds, L, Q => semE a E ds L fun x L1 => semE b E ds L1 fun y L2 => (match res L2 x, y with
    | .lst xs, .int k => (-(2 ^ 63) ≤ k ∧ k < 2 ^ 63 ∧ xs.length * k.toNat ≤ sizeLine) ∧ Q (List.replicate k.toNat xs).flatten L2
    | _, _ => False)
  | .lc own e g it ifs, E, ds, L, Q => semI it E ds L fun s L1 => lcR s (fun x L2 k => semG g x (wipeD ds own) fun ds2 => semIf ifs NoE ds2 L2 fun b L3 =>
      if b = true then semE e NoE ds2 L3 fun y L4 => k (some y) L4 else k none L3) Q s.items [] L1
  | .lc2 own own1 e g it ifs g1 it1 ifs1, E, ds, L, Q => semI it E ds L fun s L1 => lcR2 s (fun x acc L2 k => semG g x (wipeD ds own) fun ds2 => semIf ifs NoE ds2 L2 fun b L3 =>
      if b = true then semI it1 NoE ds2 L3 fun s1 L4 => lcR s1 (fun x1 L5 k1 => semG g1 x1 (wipeD ds2 own1) fun ds3 => semIf ifs1 NoE ds3 L5 fun b1 L6 =>
        if b1 = true then semE e NoE ds3 L6 fun y L7 => k1 (some y) L7 else k1 none L6) k s1.items acc L4 else k acc L3) Q s.items [] L1
def semD : ID → XH → Ds → Hl → (Bool → List D → List D → Hl → Prop) → Prop
  | .nil t, _, _, L, Q => Q t [] [] L
  | .dc _ _ _ _ _ _ _, _, _, _, _ => False
  | .of _, _, _, _, _ => False
def semR : IR → XH → Ds → Hl → (Int → Int → Hl → Prop) → Prop
  | .one b, E, ds, L, Q => semE b E ds L fun y L1 => (match y with
    | .int j => Q 0 j L1
    | _ => False)
  | .two a b, E, ds, L, Q => semE a E ds L fun x L1 => semE b E ds L1 fun y L2 => (match x, y with
    | .int i, .int j => Q i j L2
    | _, _ => False)
def semI : II → XH → Ds → Hl → (Src → Hl → Prop) → Prop
  | .seq e, E, ds, L, Q => semE e E ds L fun x L1 => srcK L1 x fun s => Q s L1
  | .rng r, E, ds, L, Q => semR r E ds L fun i j L1 => (smallR i ∧ smallR j) ∧ Q (.fixed (rngD i j)) L1
  | .enum a, E, ds, L, Q => semE a E ds L fun x L1 => (match x with
    | .tup xs => Q (.fixed (enumD 0 xs)) L1
    | .lst xs => Q (.fixed (enumD 0 xs)) L1
    | _ => False)
  | .zip a b, E, ds, L, Q => semE a E ds L fun x L1 => semE b E ds L1 fun y L2 => (match x, y with
    | .tup xs, .tup ys => Q (.fixed (zipD xs ys)) L2
    | .lst xs, .lst ys => Q (.fixed (zipD xs ys)) L2
    | _, _ => False)
end
end

/-! ### statements -/
abbrev XS := Str → Ds → Hl → Prop
structure DN where
  nx : Ds → Hl → Prop
  rt : QE
  bk : Ds → Hl → Prop := fun _ _ => False
  ct : Ds → Hl → Prop := fun _ _ => False
def setsD : List Nat → List D → Ds → Ds
  | i :: is, x :: xs, ds => setsD is xs (ds.set i (some x))
  | _, _, ds => ds
def setK (L : Hl) (o i v : D) (Q : Hl → Prop) : Prop :=
  match o, i with
  | .obj n, .int k => ∃ xs j, L[n]? = some (.lst xs) ∧ ixN xs.length k = some j ∧ Q (L.set n (.lst (xs.set j v)))
  | _, _ => False
/-- a for's loop -/
def forR (s : Src) (t : D → DN → Ds → Hl → Prop) (N : DN) : List D → Ds → Hl → Prop
  | [], ds, L => s.ok L ∧ N.nx ds L
  | x :: xs, ds, L => s.ok L ∧ t x { nx := forR s t N xs, rt := N.rt, bk := N.nx, ct := forR s t N xs } ds L
/-- a while's: n more turns at most -/
def whileR (c : Ds → Hl → (Bool → Hl → Prop) → Prop) (t : DN → Ds → Hl → Prop) (N : DN) : Nat → Ds → Hl → Prop
  | 0, _, _ => False
  | n + 1, ds, L => c ds L fun b L1 => if b = true then t { nx := whileR c t N n, rt := N.rt, bk := N.nx, ct := whileR c t N n } ds L1 else N.nx ds L1
section
variable (Φ : Phi) (sb : Str → Str → Bool)
abbrev xh (E : XS) (ds : Ds) : XH := fun c L => E c ds L
mutual
def semS : IS → XS → DN → Ds → Hl → Prop
  | .pass, _, N, ds, L => N.nx ds L
  | .expr e, E, N, ds, L => semE Φ e (xh E ds) ds L fun _ L1 => N.nx ds L1
  | .asg g e, E, N, ds, L => semE Φ e (xh E ds) ds L fun d L1 => semG g d ds fun ds1 => N.nx ds1 L1
  | .par is es, E, N, ds, L => semEs Φ es (xh E ds) ds L fun xs L1 => xs.length = is.length ∧ N.nx (setsD is xs ds) L1
  | .seti o i e, E, N, ds, L => semE Φ e (xh E ds) ds L fun v L1 => semE Φ o (xh E ds) ds L1 fun x L2 => semE Φ i (xh E ds) ds L2 fun k L3 => setK L3 x k v fun L4 => N.nx ds L4
  | .aug i e, E, N, ds, L => ∃ d, ds[i]? = some (some d) ∧ semE Φ e (xh E ds) ds L fun y L1 => (match d, y with
    | .int a, .int b => N.nx (ds.set i (some (.int (a + b)))) L1
    | _, _ => False)
  | .ret e, E, N, ds, L => semE Φ e (xh E ds) ds L N.rt
  | .ret0, _, N, _, L => N.rt .non L
  | .ite c a b, E, N, ds, L => semE Φ c (xh E ds) ds L fun x L1 => truthK L1 x fun k => if k = true then semSs a E N ds L1 else semSs b E N ds L1
  | .for_ g it b, E, N, ds, L => semI Φ it (xh E ds) ds L fun s L1 => forR s (fun x M ds L => semG g x ds fun ds1 => semSs b E M ds1 L) N s.items ds L1
  | .while_ c b, E, N, ds, L => ∃ n, whileR (fun ds L k => semE Φ c (xh E ds) ds L fun x L1 => truthK L1 x fun b => k b L1) (fun M ds L => semSs b E M ds L) N n ds L
  | .brk, _, N, ds, L => N.bk ds L
  | .cont, _, N, ds, L => N.ct ds L
  | .raise c, E, _, ds, L => E c ds L
  | .try_ b c i j, E, N, ds, L => semSs b (fun x ds' L' => if sb x c = true then N.nx ((ds'.set j (some (.exc x))).set i none) L' else E x ds' L') N ds L
def semSs : ISs → XS → DN → Ds → Hl → Prop
  | .nil, _, N, ds, L => N.nx ds L
  | .cons s r, E, N, ds, L => semS s E { N with nx := semSs r E N } ds L
end
end

/-! ### what a def leaves -/
/-- no number in it -/
def nonum : D → Bool
  | .obj _ => false
  | .tup xs => nonums xs
  | .lst xs => nonums xs
  | .scr xs => nonums xs
  | .dct _ ks vs => nonums ks && nonums vs
  | _ => true
where nonums : List D → Bool
  | [] => true
  | x :: xs => nonum x && nonums xs
def O.nonum : O → Bool
  | .dead => true
  | .lst xs => Nr.nonum.nonums xs
  | .dct _ ks vs => Nr.nonum.nonums ks && Nr.nonum.nonums vs
  | .ins _ _ => false
/-- what a def made and nobody sees is forgotten -/
inductive Trim (L L' : Hl) : D → D → Hl → Prop
  | same (d : D) : Trim L L' d d L'
  | cut {d : D} {Lq : Hl} : nonum d = true → L' = Lq ++ L'.drop L.length → Lq.length = L.length → (∀ (i : Nat) (o : O), Lq[i]? = some o → L[i]? = some o ∨ o.nonum = true) → Trim L L' d d Lq
  | fresh {j : Nat} {o : O} {Lq : Hl} : L.length ≤ j → L'[j]? = some o → o.nonum = true → L' = Lq ++ L'.drop L.length → Lq.length = L.length → (∀ (i : Nat) (o : O), Lq[i]? = some o → L[i]? = some o ∨ o.nonum = true) →
      Trim L L' (.obj j) (.obj L.length) (Lq ++ [o])
def Fin (L : Hl) (Q : QE) : QE := fun d L' => ∃ d' Lq, Trim L L' d d' Lq ∧ Q d' Lq
def FinX (L : Hl) (E : XH) : XS := fun c _ L' => ∃ Lq, Trim L L' .non .non Lq ∧ E c Lq
/-- a def's body keeps its contract -/
def startD (n : Nat) (args : List D) : Ds := args.map some ++ List.replicate (n - args.length) none
def bodyK (Φ : Phi) (sb : Str → Str → Bool) (n : Nat) (b : ISs) (args : List D) (L : Hl) (Q : QE) (E : XH) : Prop :=
  semSs Φ sb b (FinX L E) { nx := fun _ L' => Fin L Q .non L', rt := Fin L Q } (startD n args) L
end Nr

/-! The check: a piece of the small language is what stands in the text. -/
namespace Nr
open PySem PySem.Spec PyProof.Rows L2

/-- what is known of a place in the text -/
structure Gm where
  N : List Str
  sc : Scope
  fnok : Option Scope
  fns : List Str
  cst : List (Str × Int)
  kws : List (Str × Nat × List Str × List Nat)
  exs : List Str := []
def Gm.blk (Γ : Gm) (scope : Scope) : Gm := { Γ with sc := relS scope Γ.sc, fnok := some scope }
def isLoc : Option NameKind → Bool
  | some .local => true
  | some .cell => true
  | _ => false
def isVis : Option NameKind → Bool
  | some .local => true
  | some .cell => true
  | some .free => true
  | _ => false
def isGl : Option NameKind → Bool
  | some .globalImplicit => true
  | _ => false
def okName (x : Str) : Bool := !(x == ("__debug__" : Str)) && !(x == ("__classdict__" : Str)) && !(x == ("__name__" : Str))
def Gm.var (Γ : Gm) (i : Nat) (x : Str) : Bool := decide (Γ.N[i]? = some x) && isVis (Γ.sc.names.lookup x) && okName x
def Gm.fk (Γ : Gm) (x : Str) : Bool := match Γ.fnok with
  | none => true
  | some sc => isLoc (sc.names.lookup x)
def Gm.loc (Γ : Gm) (i : Nat) (x : Str) : Bool := decide (Γ.N[i]? = some x) && isLoc (Γ.sc.names.lookup x) && Γ.fk x
def Gm.gl (Γ : Gm) (x : Str) : Bool := isGl (Γ.sc.names.lookup x) && okName x
def opB : B2 → Operator → Bool
  | .add, .Add => true
  | .sub, .Sub => true
  | .mul, .Mult => true
  | .mod, .Mod => true
  | .fdiv, .FloorDiv => true
  | .pow, .Pow => true
  | _, _ => false
def opC : C2 → CmpOp → Bool
  | .eq, .Eq => true
  | .ne, .NotEq => true
  | .lt, .Lt => true
  | .le, .LtE => true
  | .gt, .Gt => true
  | .ge, .GtE => true
  | .is, .Is => true
  | .isnot, .IsNot => true
  | .isin, .In => true
  | .notin, .NotIn => true
  | _, _ => false
def biName : Bi → String
  | .len => "len" | .abs => "abs" | .min => "min" | .max => "max" | .sum => "sum" | .tuple => "tuple" | .int => "int" | .all => "all" | .any => "any"
def mtName : Mt → String
  | .append => "append" | .pop => "pop" | .extend => "extend" | .insert => "insert" | .index => "index"
/-- the type's name in isinstance -/
def chkTy (Γ : Gm) : Ty → Expr → Bool
  | .int, .Name x _ => Γ.gl x && decide (x = "int")
  | .bool, .Name x _ => Γ.gl x && decide (x = "bool")
  | .str, .Name x _ => Γ.gl x && decide (x = "str")
  | .tuple, .Name x _ => Γ.gl x && decide (x = "tuple")
  | .list, .Name x _ => Γ.gl x && decide (x = "list")
  | .dict, .Name x _ => Γ.gl x && decide (x = "dict")
  | .seq, .Tuple [.Name x _, .Name y _] _ _ => (Γ.gl x && decide (x = "list")) && (Γ.gl y && decide (y = "tuple"))
  | _, _ => false
def isSlice : Expr → Bool
  | .Slice _ _ _ _ => true
  | _ => false
/-- a walk of pairs stores a pair -/
def tgOk : II → Expr → Bool
  | .zip _ _, .Tuple _ _ _ => true
  | .zip _ _, _ => false
  | .enum _, .Tuple _ _ _ => true
  | .enum _, _ => false
  | _, _ => true
/-- a method's receiver is of a plain form -/
def methBase : Expr → Bool
  | .Name _ _ => true
  | .Subscript _ _ _ => true
  | _ => false
mutual
/-- the slots that a target stores -/
def IG.slots : IG → List Nat
  | .n i => [i]
  | .t gs => gs.slots
def IGs.slots : IGs → List Nat
  | .nil => []
  | .cons g gs => g.slots ++ gs.slots
end
mutual
def chkG (Γ : Gm) : IG → Expr → Bool
  | .n i, .Name x _ => Γ.loc i x
  | .t gs, .Tuple es _ _ => chkGs Γ gs es
  | _, _ => false
def chkGs (Γ : Gm) : IGs → List Expr → Bool
  | .nil, [] => true
  | .cons g gs, e :: es => chkG Γ g e && chkGs Γ gs es
  | _, _ => false
end
mutual
def chkE (Γ : Gm) : IE → Expr → Bool
  | .var i, z => (match z with
    | .Name x _ => Γ.var i x
    | _ => false)
  | .int i, z => (match z with
    | .Constant (.int j) _ _ => decide (i = j)
    | _ => false)
  | .str s, z => (match z with
    | .Constant (.str x) _ _ => decide (s = x) && PyData.strOk x
    | _ => false)
  | .bl b, z => (match z with
    | .Constant (.bool c) _ _ => b == c
    | _ => false)
  | .non, z => (match z with
    | .Constant .none _ _ => true
    | _ => false)
  | .gint x i, z => (match z with
    | .Name y _ => Γ.gl y && decide (x = y) && decide (Γ.cst.lookup y = some i)
    | _ => false)
  | .tup es, z => (match z with
    | .Tuple es' _ _ => chkEs Γ es es'
    | _ => false)
  | .frz f, e => chkF Γ f e
  | .newl f, e => chkF Γ f e
  | .frzd f, e => chkD Γ f e
  | .newd _, _ => false
  | .bin o a b, z => (match z with
    | .BinOp a' op b' _ => opB o op && chkE Γ a a' && chkE Γ b b'
    | _ => false)
  | .cmp o a b, z => (match z with
    | .Compare a' [op] [b'] _ => opC o op && chkE Γ a a' && chkE Γ b b' && !behindInMarks op b'
    | _ => false)
  | .chain o o' a b c, z => (match z with
    | .Compare a' [op, op'] [b', c'] _ => opC o op && opC o' op' && chkE Γ a a' && chkE Γ b b' && chkE Γ c c' && !behindInMarks op b' && !behindInMarks op' c'
    | _ => false)
  | .neg a, z => (match z with
    | .UnaryOp .USub a' _ => chkE Γ a a'
    | _ => false)
  | .not a, z => (match z with
    | .UnaryOp .Not a' _ => chkE Γ a a'
    | _ => false)
  | .and es, z => (match z with
    | .BoolOp .And es' _ => chkEs Γ es es'
    | _ => false)
  | .or es, z => (match z with
    | .BoolOp .Or es' _ => chkEs Γ es es'
    | _ => false)
  | .ite c a b, z => (match z with
    | .IfExp c' a' b' _ => chkE Γ c c' && chkE Γ a a' && chkE Γ b b'
    | _ => false)
  | .idx a b, z => (match z with
    | .Subscript a' b' _ => chkE Γ a a' && chkE Γ b b' && !isSlice b'
    | _ => false)
  | .slc a lo hi, z => (match z with
    | .Subscript a' (.Slice lo' hi' none _) _ => chkE Γ a a' && (match lo' with
      | none => isOmit lo
      | some e => chkE Γ lo e) && (match hi' with
      | none => isOmit hi
      | some e => chkE Γ hi e)
    | _ => false)
  | .call f es, z => (match z with
    | .Call (.Name x _) es' [] _ => Γ.gl x && decide (f = x) && Γ.fns.contains f && chkEs Γ es es'
    | _ => false)
  | .callk f es ks perm, z => (match z with
    | .Call (.Name x _) es' kws _ => Γ.gl x && decide (f = x) && Γ.fns.contains f && chkEs Γ es es' && chkKs Γ ks kws && kws.all (fun k => k.arg.isSome) && decide (es.len = es'.length) && decide (ks.len = kws.length) && decide ((f, es'.length, kws.filterMap (fun k => k.arg), perm) ∈ Γ.kws)
    | _ => false)
  | .bi b es, z => (match z with
    | .Call (.Name x _) es' [] _ => Γ.gl x && decide (x = Str.ofString (biName b)) && !es'.isEmpty && chkEs Γ es es'
    | _ => false)
  | .omit, _ => false
  | .tupr r, z => (match z with
    | .Call (.Name x _) [.Call (.Name y _) es [] _] [] _ => Γ.gl x && decide (x = "tuple") && Γ.gl y && decide (y = "range") && chkR Γ r es
    | _ => false)
  | .isi a t, z => (match z with
    | .Call (.Name x _) [a', t'] [] _ => Γ.gl x && decide (x = "isinstance") && chkE Γ a a' && chkTy Γ t t'
    | _ => false)
  | .meth m a es, z => (match z with
    | .Call (.Attribute a' x ap) es' [] cp => decide (x = Str.ofString (mtName m)) && (methBase a' && (ap.endLine == cp.line) && decide (es'.length < 20) && (!es'.isEmpty || decide (m = .pop))) && chkE Γ a a' && chkEs Γ es es'
    | _ => false)
/-- the ends of a range: from 0, or both -/
def chkR (Γ : Gm) : IR → List Expr → Bool
  | .one b, z => (match z with
    | [b'] => chkE Γ b b'
    | _ => false)
  | .two a b, z => (match z with
    | [a', b'] => chkE Γ a a' && chkE Γ b b'
    | _ => false)
def chkEs (Γ : Gm) : IEs → List Expr → Bool
  | .nil, z => (match z with
    | [] => true
    | _ => false)
  | .cons e es, z => (match z with
    | e' :: es' => chkE Γ e e' && chkEs Γ es es'
    | _ => false)
def chkKs (Γ : Gm) : IEs → List Keyword → Bool
  | .nil, z => (match z with
    | [] => true
    | _ => false)
  | .cons e es, z => (match z with
    | ⟨_, e', _⟩ :: es' => chkE Γ e e' && chkKs Γ es es'
    | _ => false)
def chkF (Γ : Gm) : IF → Expr → Bool
  | .disp es, z => (match z with
    | .List es' _ => chkEs Γ es es'
    | _ => false)
  | .of e, z => (match z with
    | .Call (.Name x _) [e'] [] _ => Γ.gl x && decide (x = "list") && chkE Γ e e'
    | _ => false)
  | .rng r, z => (match z with
    | .Call (.Name x _) [.Call (.Name y _) es [] _] [] _ => Γ.gl x && decide (x = "list") && Γ.gl y && decide (y = "range") && chkR Γ r es
    | _ => false)
  | .sorted _, _ => false
  | .cat a b, z => (match z with
    | .BinOp a' .Add b' _ => chkE Γ a a' && chkE Γ b b'
    | _ => false)
  | .rep a b, z => (match z with
    | .BinOp a' .Mult b' _ => chkE Γ a a' && chkE Γ b b'
    | _ => false)
  | .lc own e g it ifs, z => (match z with
    | .ListComp e' [⟨tg, it', ifs', 0⟩] scope _ => blkC Γ.N Γ.sc scope (own.map fun i => (Γ.N.getD i Str.empty, i)) && (chkI Γ it it' && tgOk it tg) && (chkG (Γ.blk scope) g tg && g.slots.all own.contains) && chkIf (Γ.blk scope) ifs ifs' && chkE (Γ.blk scope) e e'
    | _ => false)
  | .lc2 own own1 e g it ifs g1 it1 ifs1, z => (match z with
    | .ListComp e' [⟨tg, it', ifs', 0⟩, ⟨tg1, it1', ifs1', 0⟩] scope _ => blkC Γ.N Γ.sc scope (own.map fun i => (Γ.N.getD i Str.empty, i)) && own1.all own.contains && (chkI Γ it it' && tgOk it tg) && (chkG (Γ.blk scope) g tg && g.slots.all own.contains) && chkIf (Γ.blk scope) ifs ifs' && (chkI (Γ.blk scope) it1 it1' && tgOk it1 tg1) && (chkG (Γ.blk scope) g1 tg1 && g1.slots.all own1.contains) && chkIf (Γ.blk scope) ifs1 ifs1' && chkE (Γ.blk scope) e e'
    | _ => false)
def chkIf (Γ : Gm) : IEs → List Expr → Bool
  | .nil, z => (match z with
    | [] => true
    | _ => false)
  | .cons e .nil, z => (match z with
    | [e'] => chkE Γ e e'
    | _ => false)
  | .cons _ (.cons _ _), _ => false
def chkD (Γ : Gm) : ID → Expr → Bool
  | .nil t, z => (match z with
    | .Dict [] [] _ => !t
    | _ => false)
  | .dc _ _ _ _ _ _ _, _ => false
  | .of _, _ => false
def chkI (Γ : Gm) : II → Expr → Bool
  | .rng r, z => (match z with
    | .Call (.Name x _) es [] _ => Γ.gl x && decide (x = "range") && chkR Γ r es
    | _ => false)
  | .enum _, _ => false
  | .zip a b, z => (match z with
    | .Call (.Name x _) [a', b'] [] _ => Γ.gl x && decide (x = "zip") && chkE Γ a a' && chkE Γ b b'
    | _ => false)
  | .seq e, e' => chkE Γ e e'
end
/-- a part of a slice -/
def chkO (Γ : Gm) (ir : IE) (o : Option Expr) : Bool := match o with
  | none => isOmit ir
  | some e => chkE Γ ir e
theorem chkE_int {Γ : Gm} {p : Pos} : chkE Γ (.int 1) (.Constant (.int 1) 0 p) = true := rfl
end Nr

/-! The small language does what the text does: expressions. -/
namespace Nr
open PySem PySem.Spec PyProof.Rows L2

abbrev wd (X : Cx) : Wd := ⟨X.prog, X.w, X.K, X.mg⟩
def clsIs (W : Wd) (c : Str) (cls : Value) : Prop := ∃ C, W.mg c = some (.ref C) ∧ cls = .ref C
/-- what is wanted of an exception -/
def lW (W : Wd) (B : Option En) (E : XS) : WX := fun cls d σ H => ∃ (c : Str) (m : Nb) (L : Hl) (ds : Ds), clsIs W c cls ∧ d = none ∧ Sit W B m L ds σ H ∧ E c ds L
/-- a contract over data as the hand layer's -/
def lSp (W : Wd) (φ : List D → Hl → QE → XH → Prop) : Sp := fun vs H Q Ex => ∃ (m : Nb) (L : Hl) (xs : List D) (Qd : QE) (Ed : XH), RepL W m L H ∧ RepVs W m L H vs xs ∧ φ xs L Qd Ed ∧
  (∀ d L' v m' H', Qd d L' → Step m L H m' L' H' → RepL W m' L' H' → RepV W m' L' H' v d → Q v H') ∧
  (∀ c L' cls m' H', Ed c L' → clsIs W c cls → Step m L H m' L' H' → RepL W m' L' H' → Ex cls none H')
def bltNames : List Str := ["len", "abs", "min", "max", "sum", "sorted", "list", "tuple", "int", "all", "any", "range", "enumerate", "zip", "isinstance", "bool", "str", "dict"]

/-- a def that may be called at level k -/
structure Fn (W : Wd) (base : Heap) (k : Nat) (φ : List D → Hl → QE → XH → Prop) (f : Str) (kws : List (Str × Nat × List Str × List Nat)) : Prop where
  ok : ∃ (fa : Addr) (fd : FuncData) (ps : List Str), W.mg f = some (.ref fa) ∧ PySem.W.keepIn W.K (.ref fa) = true ∧ FnOk W.P W.w W.K W.mg base (L2.CX W.P W.w) k fa fd ps (lSp W φ) ∧
    (∀ (s : Shared) (us : List Value), W.K.In s.heap → us.length = ps.length → BindsTo s fd ⟨us, []⟩ (ps.zip us)) ∧
    ∀ n ks perm, (f, n, ks, perm) ∈ kws → perm.length = ps.length ∧ (∀ i ∈ perm, i < n + ks.length) ∧ ∀ (s : Shared) (us ws : List Value), W.K.In s.heap → us.length = n → ws.length = ks.length → BindsTo s fd ⟨us, ks.zip ws⟩ (ps.zip (perm.filterMap fun i => (us ++ ws)[i]?))

structure Good (Φ : Phi) (B : Option En) (E : XS) (k : Nat) (Γ : Gm) (X : Cx) : Prop where
  N : X.N = Γ.N
  nd : Γ.N.Nodup
  sc : X.env.scope = Γ.sc
  fn : ∀ x, Γ.fk x = true → isLoc (Γ.sc.names.lookup x) = true → X.fn x = true ∨ X.env.scope.names.lookup x = some .local
  calm : X.calm = true
  room : Room k X.A
  tk : Takes X (lW (wd X) B E)
  cst : ∀ x i, Γ.cst.lookup x = some i → ∃ t, X.mg x = some (.int i t)
  blt : ∀ x ∈ bltNames, X.mg x = none
  fns : ∀ f ∈ Γ.fns, ∃ fa, X.mg f = some (.ref fa) ∧ PySem.W.keepIn X.K (.ref fa) = true
  call : ∀ f xs L Q Ex, Φ f xs L Q Ex → Fn (wd X) X.base k (Φ f) f Γ.kws

section
variable {Φ : Phi} {B : Option En} {E : XS} {k : Nat} {Γ : Gm} {X : Cx}
theorem isVis_of {o : Option NameKind} (h : isVis o = true) : o = some .local ∨ o = some .cell ∨ o = some .free := by
  unfold isVis at h
  split at h <;> first | exact .inl rfl | exact .inr (.inl rfl) | exact .inr (.inr rfl) | cases h
theorem isLoc_of {o : Option NameKind} (h : isLoc o = true) : o = some .local ∨ o = some .cell := by
  unfold isLoc at h
  split at h <;> first | exact .inl rfl | exact .inr rfl | cases h
theorem isGl_of {o : Option NameKind} (h : isGl o = true) : o = some .globalImplicit := by
  unfold isGl at h
  split at h <;> first | rfl | cases h
theorem okName_of {x : Str} (h : okName x = true) : (x == ("__debug__" : Str)) = false ∧ (x == ("__classdict__" : Str)) = false ∧ x ≠ "__name__" := by
  unfold okName at h
  simp only [Bool.and_eq_true, Bool.not_eq_true'] at h
  exact ⟨h.1.1, h.1.2, fun e => by simp [e] at h⟩
theorem b2 {a b : Bool} (h : (a && b) = true) : a = true ∧ b = true := Bool.and_eq_true_iff.mp h
theorem Good.var (G : Good Φ B E k Γ X) {i : Nat} {x : Str} {pos : Pos} (h : Γ.var i x = true) : PE X (.Name x pos) (tVar i) := by
  obtain ⟨h1, h3⟩ := b2 h
  obtain ⟨h1, h2⟩ := b2 h1
  obtain ⟨d1, d2, _⟩ := okName_of h3
  refine pe_var (by rw [G.N]; exact of_decide_eq_true h1) ?_ d1 d2
  unfold Vis
  rw [G.sc]
  exact isVis_of h2
theorem Good.gl (G : Good Φ B E k Γ X) {x : Str} (h : Γ.gl x = true) : Gl X x ∧ (x == ("__debug__" : Str)) = false ∧ x ≠ "__name__" := by
  obtain ⟨h1, h2⟩ := b2 h
  obtain ⟨d1, _, d3⟩ := okName_of h2
  refine ⟨?_, d1, d3⟩
  unfold Gl Env.kindOf
  rw [G.sc]
  exact isGl_of h1
theorem Good.units (G : Good Φ B E k Γ X) : X.A.units + 200 < cLine := by
  have := G.room.un
  omega

/-- not a star, no comprehension: what the machine asks of an expression's form -/
def starE : Expr → Bool
  | .Starred _ _ => true
  | .Set _ _ _ => true
  | _ => false
theorem star_of {e : Expr} {es : List Expr} {env : Env} (h : starE e = false) : starEach (e :: es) env = (false, eval e env) :: starEach es env := by
  cases e <;> first | rfl | cases h
theorem fold_of {e : Expr} {env : Env} {x : Value} (h : starE e = false) : foldedSetIterable e env x = pure x := by
  cases e <;> first | rfl | cases h
mutual
theorem chkE_star : ∀ (ir : IE) (e : Expr), chkE Γ ir e = true → starE e = false
  | .frz f, e, h => chkF_star f e (by unfold chkE at h; exact h)
  | .newl f, e, h => chkF_star f e (by unfold chkE at h; exact h)
  | .frzd f, e, h => by
    unfold chkE at h
    cases f with
    | nil t => cases e <;> first | rfl | (simp [chkD] at h; done)
    | _ => unfold chkD at h; cases h
  | .newd f, e, h => by unfold chkE at h; cases h
  | .var _, e, h => by unfold chkE at h; split at h <;> first | rfl | cases h
  | .int _, e, h => by unfold chkE at h; split at h <;> first | rfl | cases h
  | .str _, e, h => by unfold chkE at h; split at h <;> first | rfl | cases h
  | .bl _, e, h => by unfold chkE at h; split at h <;> first | rfl | cases h
  | .non, e, h => by unfold chkE at h; split at h <;> first | rfl | cases h
  | .gint _ _, e, h => by unfold chkE at h; split at h <;> first | rfl | cases h
  | .omit, e, h => by unfold chkE at h; cases h
  | .tup _, e, h => by unfold chkE at h; split at h <;> first | rfl | cases h
  | .bin _ _ _, e, h => by unfold chkE at h; split at h <;> first | rfl | cases h
  | .cmp _ _ _, e, h => by unfold chkE at h; split at h <;> first | rfl | cases h
  | .chain _ _ _ _ _, e, h => by unfold chkE at h; split at h <;> first | rfl | cases h
  | .neg _, e, h => by unfold chkE at h; split at h <;> first | rfl | cases h
  | .not _, e, h => by unfold chkE at h; split at h <;> first | rfl | cases h
  | .and _, e, h => by unfold chkE at h; split at h <;> first | rfl | cases h
  | .or _, e, h => by unfold chkE at h; split at h <;> first | rfl | cases h
  | .ite _ _ _, e, h => by unfold chkE at h; split at h <;> first | rfl | cases h
  | .idx _ _, e, h => by unfold chkE at h; split at h <;> first | rfl | cases h
  | .slc _ _ _, e, h => by unfold chkE at h; split at h <;> first | rfl | cases h
  | .call _ _, e, h => by unfold chkE at h; split at h <;> first | rfl | cases h
  | .callk _ _ _ _, e, h => by unfold chkE at h; split at h <;> first | rfl | cases h
  | .bi _ _, e, h => by unfold chkE at h; split at h <;> first | rfl | cases h
  | .tupr _, e, h => by unfold chkE at h; split at h <;> first | rfl | cases h
  | .isi _ _, e, h => by unfold chkE at h; split at h <;> first | rfl | cases h
  | .meth _ _ _, e, h => by unfold chkE at h; split at h <;> first | rfl | cases h
theorem chkF_star : ∀ (f : IF) (e : Expr), chkF Γ f e = true → starE e = false
  | .disp _, e, h => by unfold chkF at h; split at h <;> first | rfl | cases h
  | .of _, e, h => by unfold chkF at h; split at h <;> first | rfl | cases h
  | .rng _, e, h => by unfold chkF at h; split at h <;> first | rfl | cases h
  | .sorted _, e, h => by unfold chkF at h; cases h
  | .cat _ _, e, h => by unfold chkF at h; split at h <;> first | rfl | cases h
  | .rep _ _, e, h => by unfold chkF at h; split at h <;> first | rfl | cases h
  | .lc _ _ _ _ _, e, h => by unfold chkF at h; split at h <;> first | rfl | cases h
  | .lc2 _ _ _ _ _ _ _ _ _, e, h => by unfold chkF at h; split at h <;> first | rfl | cases h
end

/-! ### new lists -/
abbrev TDl := Ds → Hl → (List D → Hl → Prop) → Prop
/-- a new list stands at p, nothing else does -/
structure NewAt (W : Wd) (m : Nb) (L : Hl) (H : Hp) (m' : Nb) (L' : Hl) (H' : Hp) (p : Addr) (xs : List D) : Prop where
  r0 : RepL W m L H
  st : Step m L H m' L' H'
  rl : RepL W m' L' H'
  fr : H p = none
  nm : ApN m' L' p
  nr : p ∈ m'.r
  at_ : ∃ vs, H' p = some (.lst vs) ∧ RepVs W m' L' H' vs xs
def lF (W : Wd) (B : Option En) (t : TDl) : TE := fun σ H Q => ∃ (m : Nb) (L : Hl) (ds : Ds) (Qd : List D → Hl → Prop), Sit W B m L ds σ H ∧ t ds L Qd ∧
  ∀ xs L' m' H' p, Qd xs L' → NewAt W m L H m' L' H' p xs → Q (.ref p) H'
abbrev DF (X : Cx) (W : Wd) (B : Option En) (e : Expr) (t : TDl) : Prop := PE X e (lF W B t)
variable {W : Wd} {e : Expr} {es : List Expr} {pos : Pos}
theorem NewAt.frz {m m' : Nb} {L L' : Hl} {H H' : Hp} {p : Addr} {xs : List D} (n : NewAt W m L H m' L' H' p xs) : Step m L H (m'.unr p) L' H' ∧ RepL W (m'.unr p) L' H' ∧ RepV W (m'.unr p) L' H' (.ref p) (.lst xs) := by
  obtain ⟨vs, h1, h2⟩ := n.at_
  exact ⟨Step.unr n.r0 n.st n.fr, n.rl.unr, .lst h1 h2.unr ⟨n.nm, fun z => (mem_unr.mp z).2 rfl⟩⟩
theorem NewAt.num {m m' : Nb} {L L' : Hl} {H H' : Hp} {p : Addr} {xs : List D} (n : NewAt W m L H m' L' H' p xs) :
    Step m L H (nwId (m'.unr p) L'.length p) (L' ++ [.lst xs]) H' ∧ RepL W (nwId (m'.unr p) L'.length p) (L' ++ [.lst xs]) H' ∧ RepV W (nwId (m'.unr p) L'.length p) (L' ++ [.lst xs]) H' (.ref p) (.obj L'.length) := by
  obtain ⟨vs, h1, h2⟩ := n.at_
  have st := Step.unr n.r0 n.st n.fr
  have r : RepL W (nwId (m'.unr p) L'.length p) (L' ++ [.lst xs]) H' := n.rl.num n.nm n.nr ⟨vs, h1, h2.num n.nm n.nr⟩
  refine ⟨⟨Nat.le_trans st.len (by simp), fun i hi => ?_, st.rs, fun i hi ai => ?_, st.keep, st.there, fun i hi ai => ?_⟩, r, ?_⟩
  · rw [nwId_ne (Nat.ne_of_lt (Nat.lt_of_lt_of_le hi st.len))]
    exact st.ids i hi
  · rcases alive_push ai with ⟨_, ai⟩ | h
    · exact st.live i hi ai
    · exact absurd (h ▸ hi) (Nat.not_lt.mpr st.len)
  · rcases alive_push ai with ⟨hj, ai⟩ | h
    · rw [nwId_ne (Nat.ne_of_lt hj)]
      exact st.new i hi ai
    · rw [h, nwId_same]
      exact n.fr
  · have := RepV.obj (W := W) (m := nwId (m'.unr p) L'.length p) (L := L' ++ [.lst xs]) (H := H') (i := L'.length) (by simp)
    rw [nwId_same] at this
    exact this
theorem e_frz {t : TDl} (h : DF X W B e t) : DE X W B e (fun ds L Q => t ds L fun xs L1 => Q (.lst xs) L1) := peI h fun σ H Q ⟨m, L, ds, Qd, S, q, c⟩ =>
  ⟨m, L, ds, _, S, q, fun xs L' m' H' p q' n => c _ L' _ _ H' q' n.frz.1 n.frz.2.1 n.frz.2.2⟩
theorem e_newl {t : TDl} (h : DF X W B e t) : DE X W B e (fun ds L Q => t ds L fun xs L1 => Q (.obj L1.length) (L1 ++ [.lst xs])) := peI h fun σ H Q ⟨m, L, ds, Qd, S, q, c⟩ =>
  ⟨m, L, ds, _, S, q, fun xs L' m' H' p q' n => c _ _ _ _ H' q' n.num.1 n.num.2.1 n.num.2.2⟩
/-- made at once, of values that stand -/
theorem newAt_upd {m m' : Nb} {L L' : Hl} {H H' : Hp} {p : Addr} {vs : List V} {xs : List D} (r0 : RepL W m L H) (st : Step m L H m' L' H') (rl : RepL W m' L' H') (hp : H' p = none) (r : RepVs W m' L' H' vs xs) : NewAt W m L H (m'.res p) L' (upd H' p (.lst vs)) p xs :=
  ⟨r0, st.trans (Step.resv hp), rl.resv hp, st.there p hp, (rl.free hp).1, List.mem_cons_self, vs, upd_same, r.resv hp⟩
theorem f_disp {t : TDs} (h : DA X W B es t) : DF X W B (.List es pos) (fun ds L Q => t ds L fun xs L1 => xs.length ≤ sizeLine ∧ Q xs L1) := peI (pe_lst h) fun σ H Q ⟨m, L, ds, Qd, S, q, c⟩ =>
  ⟨m, L, ds, _, S, q, fun xs L' vs m' H' q' st rl rv => ⟨by rw [rv.length]; exact q'.1, fun p hp => c xs L' _ _ p q'.2 (newAt_upd S.rl st rl hp rv)⟩⟩
theorem e_tup {t : TDs} {j : Nat} (h : DA X W B es t) : DE X W B (.Tuple es j pos) (fun ds L Q => t ds L fun xs L1 => xs.length ≤ sizeLine ∧ Q (.tup xs) L1) := peI (pe_tup h) fun σ H Q ⟨m, L, ds, Qd, S, q, c⟩ =>
  ⟨m, L, ds, _, S, q, fun xs L' vs m' H' q' st rl rv => ⟨by rw [rv.length]; exact q'.1, fun p hp => c _ L' _ m' _ q'.2 (st.trans (Step.laid hp)) (rl.laid hp) (rep_tup rl hp rv)⟩⟩
theorem a_nil : DA X W B [] (fun _ L Q => Q [] L) := paI pa_nil fun σ H Q ⟨m, L, ds, Qd, S, q, c⟩ => c [] L [] m H q Step.refl S.rl .nil
theorem a_cons {t : TD} {u : TDs} (hs : starE e = false) (h : DE X W B e t) (hr : DA X W B es u) : DA X W B (e :: es) (fun ds L Q => t ds L fun x L1 => u ds L1 fun xs L2 => Q (x :: xs) L2) :=
  paI (pa_cons h hr (star_of hs)) fun σ H Q ⟨m, L, ds, Qd, S, q, c⟩ =>
    ⟨m, L, ds, _, S, q, fun x L1 v m1 H1 q1 st1 rl1 rv => ⟨m1, L1, ds, _, S.nx st1 rl1, q1, fun xs L2 vs m2 H2 q2 st2 rl2 rvs => c _ L2 _ m2 H2 q2 (st1.trans st2) rl2 (.cons (rv.step st2) rvs)⟩⟩

/-! ### truth -/
theorem truth_of {m : Nb} {L : Hl} {H : Hp} {v : V} {d : D} {b : Bool} (rl : RepL W m L H) (r : RepV W m L H v d) (h : truthV L d = some b) : TruV W.K v H b := by
  unfold truthV at h
  split at h
  · rename_i e
    cases h
    rw [res_non r e]
    rfl
  · rename_i b e
    cases h
    rw [res_bl r e]
    rfl
  · rename_i i e
    cases h
    rw [res_int r e]
    rfl
  · rename_i xs e
    cases h
    obtain ⟨rfl, p, vs, rfl, h1, h2⟩ := res_tup r e
    refine .inr (.inl ⟨vs, h1, ?_⟩)
    cases h2 <;> rfl
  · rename_i xs e
    cases h
    obtain ⟨p, vs, rfl, h1, h2⟩ := res_lst rl r e
    refine .inl ⟨vs, SqL.of h1, ?_⟩
    cases h2 <;> rfl
  · rename_i xs e
    cases h
    obtain ⟨p, vs, rfl, h1, h2, _⟩ := res_scr r e
    refine .inl ⟨vs, h1, ?_⟩
    cases h2 <;> rfl
  · cases h
/-- a test: a value, by its truth -/
def lT (W : Wd) (B : Option En) (t : TD) : TT := fun σ H Q => ∃ (m : Nb) (L : Hl) (ds : Ds) (Qd : QE), Sit W B m L ds σ H ∧ t ds L Qd ∧
  ∀ d L' m' H', Qd d L' → Step m L H m' L' H' → RepL W m' L' H' → ∃ b, truthV L' d = some b ∧ Q b H'
abbrev DT (X : Cx) (W : Wd) (B : Option En) (e : Expr) (t : TD) : Prop := PT X e (lT W B t)
abbrev DW (X : Cx) (W : Wd) (B : Option En) (e : Expr) (t : TD) : Prop := PW X e (lT W B t)
theorem t_truth {t : TD} (h : DE X (wd X) B e t) (he : ∀ whole, isTrue e X.env whole = (do let v ← whole; standAt e.pos; holding [v] (truthy v))) : DT X (wd X) B e t :=
  ptI (pt_truth h he) fun σ H Q ⟨m, L, ds, Qd, S, q, c⟩ => ⟨m, L, ds, _, S, q, fun d L' v m' H' q' st rl r => by
    obtain ⟨b, h1, h2⟩ := c d L' m' H' q' st rl
    exact ⟨b, truth_of rl r h1, h2⟩⟩
def dNot (t : TD) : TD := fun ds L Q => t ds L fun x L1 => truthK L1 x fun b => Q (.bl (!b)) L1
def dAnd (t u : TD) : TD := fun ds L Q => t ds L fun x L1 => truthK L1 x fun k => if k = true then u ds L1 Q else Q x L1
def dOr (t u : TD) : TD := fun ds L Q => t ds L fun x L1 => truthK L1 x fun k => if k = true then Q x L1 else u ds L1 Q
def dIte (t ta tb : TD) : TD := fun ds L Q => t ds L fun x L1 => truthK L1 x fun k => if k = true then ta ds L1 Q else tb ds L1 Q
theorem t_not {a : Expr} {t : TD} (h : DT X W B a t) : DT X W B (.UnaryOp .Not a pos) (dNot t) :=
  ptI (pt_not h) fun σ H Q ⟨m, L, ds, Qd, S, q, c⟩ => ⟨m, L, ds, _, S, q, fun d L' m' H' ⟨b, e, q'⟩ st rl => by
    obtain ⟨b', e', h⟩ := c _ L' m' H' q' st rl
    cases e'
    exact ⟨b, e, h⟩⟩
theorem e_not {a : Expr} {t : TD} (h : DE X (wd X) B a t) : DE X (wd X) B (.UnaryOp .Not a pos) (dNot t) :=
  peI (pe_notT h) fun σ H Q ⟨m, L, ds, Qd, S, q, c⟩ => ⟨m, L, ds, _, S, q, fun d L' v m' H' ⟨b, e, q'⟩ st rl r => ⟨b, truth_of rl r e, c _ L' _ m' H' q' st rl (.bl _)⟩⟩
theorem e_and {a b : Expr} {rest : List Expr} {t u : TD} (ha : DE X (wd X) B a t) (hb : DE X (wd X) B (.BoolOp .And (b :: rest) pos) u) : DE X (wd X) B (.BoolOp .And (a :: b :: rest) pos) (dAnd t u) :=
  peI (pe_andT ha hb) fun σ H Q ⟨m, L, ds, Qd, S, q, c⟩ => ⟨m, L, ds, _, S, q, fun d L' v m' H' ⟨k, e, q'⟩ st rl r => by
    refine ⟨k, truth_of rl r e, ?_⟩
    cases k with
    | true => exact ⟨m', L', ds, Qd, S.nx st rl, q', fun d L2 v m2 H2 q2 st2 rl2 r2 => c d L2 v m2 H2 q2 (st.trans st2) rl2 r2⟩
    | false => exact c _ L' _ m' H' q' st rl r⟩
theorem e_or {a b : Expr} {rest : List Expr} {t u : TD} (ha : DE X (wd X) B a t) (hb : DE X (wd X) B (.BoolOp .Or (b :: rest) pos) u) : DE X (wd X) B (.BoolOp .Or (a :: b :: rest) pos) (dOr t u) :=
  peI (pe_orT ha hb) fun σ H Q ⟨m, L, ds, Qd, S, q, c⟩ => ⟨m, L, ds, _, S, q, fun d L' v m' H' ⟨k, e, q'⟩ st rl r => by
    refine ⟨k, truth_of rl r e, ?_⟩
    cases k with
    | true => exact c _ L' _ m' H' q' st rl r
    | false => exact ⟨m', L', ds, Qd, S.nx st rl, q', fun d L2 v m2 H2 q2 st2 rl2 r2 => c d L2 v m2 H2 q2 (st.trans st2) rl2 r2⟩⟩
theorem t_and {a b : Expr} {rest : List Expr} {t u : TD} (ha : DT X W B a t) (hb : DW X W B (.BoolOp .And (b :: rest) pos) u) : DW X W B (.BoolOp .And (a :: b :: rest) pos) (dAnd t u) := by
  refine ⟨fun wh pins s σ H Q I h => (pw_and ha hb).run wh pins s σ H Q I ?_⟩
  obtain ⟨m, L, ds, Qd, S, q, c⟩ := h
  refine ⟨m, L, ds, _, S, q, fun d L' m' H' ⟨k, e, q'⟩ st rl => ⟨k, e, ?_⟩⟩
  cases k with
  | true => exact ⟨m', L', ds, Qd, S.nx st rl, q', fun d L2 m2 H2 q2 st2 rl2 => c d L2 m2 H2 q2 (st.trans st2) rl2⟩
  | false =>
    obtain ⟨b', e', h⟩ := c d L' m' H' q' st rl
    rw [e] at e'
    cases e'
    exact h
theorem t_or {a b : Expr} {rest : List Expr} {t u : TD} (ha : DT X W B a t) (hb : DW X W B (.BoolOp .Or (b :: rest) pos) u) : DW X W B (.BoolOp .Or (a :: b :: rest) pos) (dOr t u) := by
  refine ⟨fun wh pins s σ H Q I h => (pw_or ha hb).run wh pins s σ H Q I ?_⟩
  obtain ⟨m, L, ds, Qd, S, q, c⟩ := h
  refine ⟨m, L, ds, _, S, q, fun d L' m' H' ⟨k, e, q'⟩ st rl => ⟨k, e, ?_⟩⟩
  cases k with
  | true =>
    obtain ⟨b', e', h⟩ := c d L' m' H' q' st rl
    rw [e] at e'
    cases e'
    exact h
  | false => exact ⟨m', L', ds, Qd, S.nx st rl, q', fun d L2 m2 H2 q2 st2 rl2 => c d L2 m2 H2 q2 (st.trans st2) rl2⟩
theorem t_and1 {a : Expr} {t : TD} (ha : DT X W B a t) : DW X W B (.BoolOp .And [a] pos) t := pw_and1 ha
theorem t_or1 {a : Expr} {t : TD} (ha : DT X W B a t) : DW X W B (.BoolOp .Or [a] pos) t := pw_or1 ha
theorem e_ite {c' a b : Expr} {t ta tb : TD} (hc : DT X W B c' t) (ha : DE X W B a ta) (hb : DE X W B b tb) : DE X W B (.IfExp c' a b pos) (dIte t ta tb) :=
  peI (pe_ifExp hc ha hb) fun σ H Q ⟨m, L, ds, Qd, S, q, c⟩ => ⟨m, L, ds, _, S, q, fun d L' m' H' ⟨k, e, q'⟩ st rl => by
    refine ⟨k, e, ?_⟩
    cases k with
    | true => exact ⟨m', L', ds, Qd, S.nx st rl, q', fun d L2 v m2 H2 q2 st2 rl2 r2 => c d L2 v m2 H2 q2 (st.trans st2) rl2 r2⟩
    | false => exact ⟨m', L', ds, Qd, S.nx st rl, q', fun d L2 v m2 H2 q2 st2 rl2 r2 => c d L2 v m2 H2 q2 (st.trans st2) rl2 r2⟩⟩

/-! ### comparisons as tests -/
theorem cmpK_bl {o : C2} {L : Hl} {x y : D} {Q : D → Prop} (h : cmpK o L x y Q) : cmpK o L x y fun z => (∃ b, z = .bl b) ∧ Q z := by
  cases o with
  | eq => exact ⟨h.1, ⟨_, rfl⟩, h.2⟩
  | ne => exact ⟨h.1, ⟨_, rfl⟩, h.2⟩
  | is =>
    have h : isC L x y fun b => Q (.bl b) := h
    show isC L x y fun b => ((∃ b', D.bl b = D.bl b') ∧ Q (.bl b))
    unfold isC at h ⊢
    cases y <;> first | exact ⟨⟨_, rfl⟩, h⟩ | exact h | (cases x <;> first | exact ⟨⟨_, rfl⟩, h⟩ | exact h)
  | isnot =>
    have h : isC L x y fun b => Q (.bl (!b)) := h
    show isC L x y fun b => ((∃ b', D.bl (!b) = D.bl b') ∧ Q (.bl (!b)))
    unfold isC at h ⊢
    cases y <;> first | exact ⟨⟨_, rfl⟩, h⟩ | exact h | (cases x <;> first | exact ⟨⟨_, rfl⟩, h⟩ | exact h)
  | lt => unfold cmpK at h ⊢; dsimp only at h ⊢; split at h <;> first | exact ⟨⟨_, rfl⟩, h⟩ | exact ⟨h.1, ⟨_, rfl⟩, h.2⟩ | exact h.elim
  | le => unfold cmpK at h ⊢; dsimp only at h ⊢; split at h <;> first | exact ⟨⟨_, rfl⟩, h⟩ | exact h.elim
  | gt => unfold cmpK at h ⊢; dsimp only at h ⊢; split at h <;> first | exact ⟨⟨_, rfl⟩, h⟩ | exact h.elim
  | ge => unfold cmpK at h ⊢; dsimp only at h ⊢; split at h <;> first | exact ⟨⟨_, rfl⟩, h⟩ | exact h.elim
  | isin => unfold cmpK at h ⊢; dsimp only at h ⊢; split at h <;> first | exact ⟨h.1, ⟨_, rfl⟩, h.2⟩ | exact h.elim
  | notin => unfold cmpK at h ⊢; dsimp only at h ⊢; split at h <;> first | exact ⟨h.1, ⟨_, rfl⟩, h.2⟩ | exact h.elim
theorem t_cmp {a b : Expr} {op : CmpOp} {r : R2} {o : C2} {ta tb : TD} (hr : OpR X (compareOp op) r) (ho : Op2 W r (cmpK o)) (ha : DE X W B a ta) (hb : DE X W B b tb) (hm : behindInMarks op b = false) : DT X W B (.Compare a [op] [b] pos) (d2 (cmpK o) ta tb) :=
  ptI (pt_cmpR hr ha hb hm) fun σ H Q ⟨m, L, ds, Qd, S, q, c⟩ => by
    refine ⟨m, L, ds, _, S, q, fun x L1 v m1 H1 q1 st1 rl1 rv => ⟨m1, L1, ds, _, S.nx st1 rl1, q1, fun y L2 u m2 H2 q2 st2 rl2 ru => ?_⟩⟩
    refine ho m2 L2 H2 x y v u _ _ rl2 (rv.step st2) ru (cmpK_bl q2) fun z v' H' ⟨⟨b, ez⟩, qz⟩ n rz => ?_
    subst ez
    obtain ⟨b', e', h⟩ := c _ L2 m2 H' qz ((st1.trans st2).trans n.st) n.rl
    cases e'
    cases rz
    exact ⟨b, rfl, h⟩
/-- a o b o' c -/
def dChain (o o' : C2) (ta tb tc : TD) : TD := fun ds L Q => ta ds L fun x L1 => tb ds L1 fun y L2 => cmpK o L2 x y fun z => (match z with
    | .bl true => tc ds L2 fun w L3 => cmpK o' L3 y w fun z => Q z L3
    | .bl false => Q (.bl false) L2
    | _ => False)
theorem chain_of {r r' : R2} {o o' : C2} {ta tb tc : TD} (ho : Op2 W r (cmpK o)) (ho' : Op2 W r' (cmpK o')) {m : Nb} {L : Hl} {ds : Ds} {σ : L2.St} {H : Hp} {Qd : QE} {Q : VK} (S : Sit W B m L ds σ H) (q : dChain o o' ta tb tc ds L Qd)
    (c : ∀ b L' m' H', Qd (.bl b) L' → Step m L H m' L' H' → RepL W m' L' H' → Q (.bl b) H') : tChain r r' (lE W B ta) (lE W B tb) (lE W B tc) σ H Q := by
  refine ⟨m, L, ds, _, S, q, fun x L1 v m1 H1 q1 st1 rl1 rv => ⟨m1, L1, ds, _, S.nx st1 rl1, q1, fun y L2 u m2 H2 q2 st2 rl2 ru => ?_⟩⟩
  refine ho m2 L2 H2 x y v u _ _ rl2 (rv.step st2) ru (cmpK_bl q2) fun z v' H' ⟨⟨b, ez⟩, qz⟩ n rz => ?_
  subst ez
  cases rz
  refine ⟨b, rfl, ?_⟩
  cases b with
  | false => exact c false L2 m2 H' qz ((st1.trans st2).trans n.st) n.rl
  | true =>
    refine ⟨m2, L2, ds, _, (S.nx (st1.trans st2) rl2).nx n.st n.rl, qz, fun w L3 z m3 H3 q3 st3 rl3 rz => ?_⟩
    refine ho' m3 L3 H3 y w u z _ _ rl3 ((ru.step n.st).step st3) rz (cmpK_bl q3) fun z' v2 H4 ⟨⟨b, ez⟩, qz⟩ n' rz => ?_
    subst ez
    cases rz
    exact c b L3 m3 H4 qz ((((st1.trans st2).trans n.st).trans st3).trans n'.st) n'.rl
theorem marks_of {op op' : CmpOp} {b c : Expr} (h : behindInMarks op' c = false) : lastMarks [op, op'] [b, c] = false := h
theorem e_chain {a b c' : Expr} {op op' : CmpOp} {r r' : R2} {o o' : C2} {ta tb tc : TD} (hr : OpR X (compareOp op) r) (ho : Op2 W r (cmpK o)) (hr' : OpR X (compareOp op') r') (ho' : Op2 W r' (cmpK o')) (ha : DE X W B a ta) (hb : DE X W B b tb) (hc : DE X W B c' tc) (hm : behindInMarks op' c' = false) :
    DE X W B (.Compare a [op, op'] [b, c'] pos) (dChain o o' ta tb tc) :=
  peI (pe_chain hr hr' ha hb hc (marks_of hm)) fun σ H Q ⟨m, L, ds, Qd, S, q, c⟩ => chain_of ho ho' S q fun b L' m' H' q' st rl => c _ L' _ m' H' q' st rl (.bl b)
theorem t_chain {a b c' : Expr} {op op' : CmpOp} {r r' : R2} {o o' : C2} {ta tb tc : TD} (hr : OpR X (compareOp op) r) (ho : Op2 W r (cmpK o)) (hr' : OpR X (compareOp op') r') (ho' : Op2 W r' (cmpK o')) (ha : DE X W B a ta) (hb : DE X W B b tb) (hc : DE X W B c' tc) (hm : behindInMarks op' c' = false) :
    DT X W B (.Compare a [op, op'] [b, c'] pos) (dChain o o' ta tb tc) :=
  ptI (pt_chain hr hr' ha hb hc (marks_of hm)) fun σ H Q ⟨m, L, ds, Qd, S, q, c⟩ => chain_of ho ho' S q fun b L' m' H' q' st rl => by
    obtain ⟨b', e', h⟩ := c _ L' m' H' q' st rl
    cases e'
    exact ⟨b, rfl, h⟩

/-! ### subscripts -/
theorem vals_at {m : Nb} {L : Hl} {H : Hp} {vs : List V} {xs : List D} {i : Int} {d : D} (r : RepVs W m L H vs xs) (h : atI xs i = some d) : ∃ v, atI vs i = some v ∧ RepV W m L H v d := by
  unfold atI at h ⊢
  rw [r.length]
  cases e : ixN xs.length i with
  | none => rw [e] at h; cases h
  | some j =>
    rw [e] at h
    exact r.getD h
def rIx2 (K : PySem.W.Frag) : R2 := fun x y H Q => rIxL K x y H Q ∨ rIxT K x y H Q
theorem plainIx_of {b : Expr} (hs : isSlice b = false) : PlainIx b := by
  intro o i
  cases b <;> first | rfl | cases hs
theorem ix_ok {o : OD} (hd : ∀ L x y Q, o L x y Q → (∃ xs i v, (res L x = .tup xs ∨ res L x = .lst xs) ∧ y = .int i ∧ atI xs i = some v ∧ Q v)) : Op2 W (rIx2 W.K) o := by
  intro m L H x y v u Q Qd rl rv ru h k
  obtain ⟨xs, i, d, e, rfl, ea, q⟩ := hd L x y _ h
  cases ru
  rcases e with e | e
  · obtain ⟨rfl, p, vs, rfl, h1, h2⟩ := res_tup rv e
    obtain ⟨w, g1, g2⟩ := vals_at h2 ea
    exact .inr ⟨p, vs, i, w, rfl, rfl, h1, g1, k _ _ _ q (Nx.refl rl) g2⟩
  · obtain ⟨p, vs, rfl, h1, h2⟩ := res_lst rl rv e
    obtain ⟨w, g1, g2⟩ := vals_at h2 ea
    exact .inl ⟨p, vs, i, w, rfl, rfl, SqL.of h1, g1, k _ _ _ q (Nx.refl rl) g2⟩
end
end Nr

/-! Expressions, more: calls, built-ins, slices, isinstance. -/
namespace Nr
open PySem PySem.Spec PyProof.Rows L2
section
variable {Φ : Phi} {B : Option En} {E : XS} {k : Nat} {Γ : Gm} {X : Cx} {W : Wd} {e : Expr} {es : List Expr} {pos : Pos}
theorem neg_ok {t : TD} (h : DE X W B e t) : DE X W B (.UnaryOp .USub e pos) (fun ds L Q => t ds L fun x L1 => (match x with
    | .int i => Q (.int (-i)) L1
    | _ => False)) := peI (pe_un un_neg h) fun σ H Q ⟨m, L, ds, Qd, S, q, c⟩ => ⟨m, L, ds, _, S, q, fun d L' v m' H' q' st rl r => by
  cases r with
  | int i => exact ⟨i, rfl, c _ L' _ m' H' q' st rl (.int _)⟩
  | _ => exact q'.elim⟩
theorem idx_ok {a b : Expr} {ta tb : TD} (hs : isSlice b = false) (ha : DE X (wd X) B a ta) (hb : DE X (wd X) B b tb) : DE X (wd X) B (.Subscript a b pos) (d2 idxK ta tb) :=
  peI (pe_ix (IxR.or ix_list ix_tup) ha hb (plainIx_of hs)) fun σ H Q h => tOp_of (r := rIx2 X.K) (fun m L H x y v u Q Qd rl rv ru h k => by
    unfold idxK at h
    split at h
    · rename_i xs i ex
      obtain ⟨d, ea, q⟩ := h
      cases ru
      obtain ⟨rfl, p, vs, rfl, h1, h2⟩ := res_tup rv ex
      obtain ⟨w, g1, g2⟩ := vals_at h2 ea
      exact .inr ⟨p, vs, i, w, rfl, rfl, h1, g1, k _ _ _ q (Nx.refl rl) g2⟩
    · rename_i xs i ex
      obtain ⟨d, ea, q⟩ := h
      cases ru
      obtain ⟨p, vs, rfl, h1, h2⟩ := res_lst rl rv ex
      obtain ⟨w, g1, g2⟩ := vals_at h2 ea
      exact .inl ⟨p, vs, i, w, rfl, rfl, SqL.of h1, g1, k _ _ _ q (Nx.refl rl) g2⟩
    · rename_i xs i ex
      obtain ⟨d, ea, q⟩ := h
      cases ru
      obtain ⟨p, vs, rfl, h1, h2, _⟩ := res_scr rv ex
      obtain ⟨w, g1, g2⟩ := vals_at h2 ea
      exact .inl ⟨p, vs, i, w, rfl, rfl, h1, g1, k _ _ _ q (Nx.refl rl) g2⟩
    · exact h.elim) h
/-! ### slices -/
def lO (W : Wd) (B : Option En) (o : Bool) (t : TD) : TO := fun σ H Q => ∃ (m : Nb) (L : Hl) (ds : Ds) (Qd : Option Int → Hl → Prop), Sit W B m L ds σ H ∧ partK o (t ds) L Qd ∧
  ∀ i L' m' H', Qd i L' → Step m L H m' L' H' → RepL W m' L' H' → Q i H'
theorem po_omit {t : TD} : PO X none (lO W B true t) := ⟨fun pins s σ H Q I ⟨m, L, ds, Qd, S, q, c⟩ => po_none.run pins s σ H Q I (c none L m H (by unfold partK at q; exact q) Step.refl S.rl)⟩
theorem po_e {t : TD} (h : DE X W B e t) : PO X (some e) (lO W B false t) := ⟨fun pins s σ H Q I ⟨m, L, ds, Qd, S, q, c⟩ => (po_some h).run pins s σ H Q I
  ⟨m, L, ds, _, S, (by unfold partK at q; exact q), fun d L' v m' H' q' st rl r => by
    unfold optI at q'
    cases r with
    | int i => exact ⟨i, rfl, c _ L' m' H' q' st rl⟩
    | _ => exact q'.elim⟩⟩
theorem cut_rep {m : Nb} {L : Hl} {H : Hp} {vs : List V} {xs : List D} (r : RepVs W m L H vs xs) (lo hi : Option Int) : RepVs W m L H (cutV vs lo hi) (cutD xs lo hi) := by
  unfold cutV cutD
  rw [r.length]
  exact (r.drop _).take _
def rSl2 (K : PySem.W.Frag) : V → Option Int → Option Int → Hp → VK → Prop := fun x lo hi H Q => rSlA K x lo hi H Q ∨ rSlL K x lo hi H Q
theorem whole_cut {α : Type} {xs : List α} {lo hi : Option Int} (h : HT.sIx xs.length 0 lo = 0 ∧ HT.sIx xs.length xs.length hi = xs.length) : (xs.drop (HT.sIx xs.length 0 lo)).take (HT.sIx xs.length xs.length hi - HT.sIx xs.length 0 lo) = xs := by
  rw [h.1, h.2]
  simp
theorem slc_ok {lo hi : Option Expr} {a : Expr} {p2 : Pos} {ol oh : Bool} {ta tl th : TD} (ha : DE X (wd X) B a ta) (hl : PO X lo (lO (wd X) B ol tl)) (hh : PO X hi (lO (wd X) B oh th)) :
    DE X (wd X) B (.Subscript a (.Slice lo hi none p2) pos) (fun ds L Q => ta ds L fun x L1 => partK ol (tl ds) L1 fun l L2 => partK oh (th ds) L2 fun u L3 => slcK L3 x l u fun z => Q z L3) :=
  peI (pe_slice (r := rSl2 X.K) (SlR.or sl_tupA sl_list) ha hl hh) fun σ H Q ⟨m, L, ds, Qd, S, q, c⟩ =>
    ⟨m, L, ds, _, S, q, fun x L1 v m1 H1 q1 st1 rl1 r1 => ⟨m1, L1, ds, _, S.nx st1 rl1, q1, fun l L2 m2 H2 q2 st2 rl2 => ⟨m2, L2, ds, _, S.nx (st1.trans st2) rl2, q2, fun u L3 m3 H3 q3 st3 rl3 => by
      have r3 := (r1.step st2).step st3
      have st := (st1.trans st2).trans st3
      unfold slcK at q3
      split at q3
      · rename_i xs ex
        obtain ⟨rfl, p, vs, rfl, h1, h2⟩ := res_tup r3 ex
        refine .inl ⟨p, vs, rfl, h1, fun w => ?_, fun _ q hq => ?_⟩
        · have e : cutD xs l u = xs := by
            have := h2.length
            rw [this] at w
            exact whole_cut w
          rw [e] at q3
          exact c _ L3 _ m3 H3 q3 st rl3 r3
        · exact c _ L3 _ m3 _ q3 (st.trans (Step.laid hq)) (rl3.laid hq) (rep_tup rl3 hq (cut_rep h2 l u))
      · rename_i xs ex
        obtain ⟨p, vs, rfl, h1, h2⟩ := res_lst rl3 r3 ex
        exact .inr ⟨p, vs, rfl, SqL.of h1, fun q hq => c _ L3 _ m3 _ q3 (st.trans (Step.laid hq)) (rl3.laid hq) (rep_lst rl3 hq (cut_rep h2 l u))⟩
      · rename_i xs ex
        obtain ⟨p, vs, rfl, h1, h2, _⟩ := res_scr r3 ex
        exact .inr ⟨p, vs, rfl, h1, fun q hq => c _ L3 _ m3 _ q3 (st.trans (Step.laid hq)) (rl3.laid hq) (rep_lst rl3 hq (cut_rep h2 l u))⟩
      · exact q3.elim⟩⟩⟩

/-! ### built-ins -/
/-- the rule r serves the built-in b -/
def BiD (W : Wd) (r : List V → Hp → VK → Prop) (b : Bi) : Prop := ∀ (m : Nb) (L : Hl) (H : Hp) (vs : List V) (xs : List D) (Q : VK) (Qd : D → Prop), RepL W m L H → RepVs W m L H vs xs → biK b L xs Qd →
  (∀ z v' H', Qd z → Nx W m L H H' → RepV W m L H' v' z → Q v' H') → r vs H Q
theorem tCB_of {r : List V → Hp → VK → Prop} {b : Bi} (hr : BiD W r b) {t : TDs} {σ : L2.St} {H : Hp} {Q : VK} (h : lE W B (fun ds L Q => t ds L fun xs L1 => biK b L1 xs fun z => Q z L1) σ H Q) : tCB r (lA W B t) σ H Q := by
  obtain ⟨m, L, ds, Qd, S, q, c⟩ := h
  exact ⟨m, L, ds, _, S, q, fun xs L1 vs m1 H1 q1 st1 rl1 rv => hr m1 L1 H1 vs xs Q _ rl1 rv q1 fun z v' H' qz n rz => c z L1 v' m1 H' qz (st1.trans n.st) n.rl rz⟩
theorem one_of {m : Nb} {L : Hl} {H : Hp} {vs : List V} {x : D} (r : RepVs W m L H vs [x]) : ∃ v, vs = [v] ∧ RepV W m L H v x := by
  cases r with
  | cons h t => cases t; exact ⟨_, rfl, h⟩
theorem two_of {m : Nb} {L : Hl} {H : Hp} {vs : List V} {x y : D} (r : RepVs W m L H vs [x, y]) : ∃ v u, vs = [v, u] ∧ RepV W m L H v x ∧ RepV W m L H u y := by
  cases r with
  | cons h t =>
    cases t with
    | cons h' t => cases t; exact ⟨_, _, rfl, h, h'⟩
theorem ints_rep {m : Nb} {L : Hl} {H : Hp} : ∀ {vs : List V} {xs : List D} {ns : List Int}, RepVs W m L H vs xs → intsOf xs = some ns → vs = ns.map V.int
  | _, _, _, .nil, e => by cases e; rfl
  | _, _, ns, .cons (d := d) h t, e => by
    cases h with
    | int i =>
      unfold intsOf at e
      rename_i ds
      cases q : intsOf ds with
      | none => rw [q] at e; cases e
      | some ms =>
        rw [q] at e
        cases e
        rw [ints_rep t q]
        rfl
    | _ => cases e
theorem bls_rep {m : Nb} {L : Hl} {H : Hp} : ∀ {vs : List V} {xs : List D} {ns : List Bool}, RepVs W m L H vs xs → blsOf xs = some ns → vs = ns.map V.bl
  | _, _, _, .nil, e => by cases e; rfl
  | _, _, ns, .cons (d := d) h t, e => by
    cases h with
    | bl i =>
      unfold blsOf at e
      rename_i ds
      cases q : blsOf ds with
      | none => rw [q] at e; cases e
      | some ms =>
        rw [q] at e
        cases e
        rw [bls_rep t q]
        rfl
    | _ => cases e
theorem len_ok {m : Nb} {L : Hl} {H : Hp} {v : V} {x : D} {Qd : D → Prop} (rl : RepL W m L H) (r : RepV W m L H v x) (h : lenK L x Qd) : ∃ n : Nat, LenV W.K v H n ∧ Qd (.int n) := by
  unfold lenK at h
  split at h
  · rename_i xs ex
    obtain ⟨rfl, p, vs, rfl, h1, h2⟩ := res_tup r ex
    exact ⟨_, .inr ⟨vs, h1, h2.length.symm⟩, h⟩
  · rename_i xs ex
    obtain ⟨p, vs, rfl, h1, h2⟩ := res_lst rl r ex
    exact ⟨_, .inl ⟨vs, SqL.of h1, h2.length.symm⟩, h⟩
  · rename_i xs ex
    obtain ⟨p, vs, rfl, h1, h2, _⟩ := res_scr r ex
    exact ⟨_, .inl ⟨vs, h1, h2.length.symm⟩, h⟩
  · rename_i x ex
    obtain ⟨rfl, _⟩ := res_str r ex
    exact ⟨_, ⟨h.1, rfl⟩, h.2⟩
  · exact h.elim
theorem bd_len : BiD W (fun xs H Q => ∃ x n, xs = [x] ∧ LenV W.K x H n ∧ Q (.int n) H) .len := by
  intro m L H vs xs Q Qd rl rv h k
  unfold biK at h
  split at h <;> try contradiction
  rename_i b x e
  obtain ⟨v, rfl, r⟩ := one_of rv
  obtain ⟨n, h1, h2⟩ := len_ok rl r h
  exact ⟨v, n, rfl, h1, k _ _ _ h2 (Nx.refl rl) (.int _)⟩
theorem bd_abs : BiD W (fun xs H Q => ∃ i, xs = [.int i] ∧ Q (.int (if i < 0 then -i else i)) H) .abs := by
  intro m L H vs xs Q Qd rl rv h k
  unfold biK at h
  split at h <;> try contradiction
  obtain ⟨v, rfl, r⟩ := one_of rv
  cases r
  exact ⟨_, rfl, k _ _ _ h (Nx.refl rl) (.int _)⟩
theorem bd_int : BiD W (fun xs H Q => (∃ i, xs = [.int i] ∧ Q (.int i) H) ∨ ∃ k, xs = [.bl k] ∧ Q (.int (if k then 1 else 0)) H) .int := by
  intro m L H vs xs Q Qd rl rv h k
  unfold biK at h
  split at h <;> try contradiction
  · obtain ⟨v, rfl, r⟩ := one_of rv
    cases r
    exact .inl ⟨_, rfl, k _ _ _ h (Nx.refl rl) (.int _)⟩
  · obtain ⟨v, rfl, r⟩ := one_of rv
    cases r
    exact .inr ⟨_, rfl, k _ _ _ h (Nx.refl rl) (.int _)⟩
theorem bd_sum : BiD W (rSum W.K) .sum := by
  intro m L H vs xs Q Qd rl rv h k
  unfold biK at h
  split at h <;> try contradiction
  split at h
  · rename_i xs e
    obtain ⟨ns, e1, q⟩ := h
    obtain ⟨v, rfl, r⟩ := one_of rv
    obtain ⟨p, vs, rfl, h1, h2⟩ := res_lst rl r e
    rw [ints_rep h2 e1] at h1
    exact ⟨p, ns, rfl, SqL.of h1, k _ _ _ q (Nx.refl rl) (.int _)⟩
  · exact h.elim
theorem bd_all : BiD W (rAll W.K) .all := by
  intro m L H vs xs Q Qd rl rv h k
  unfold biK at h
  split at h <;> try contradiction
  split at h
  · rename_i xs e
    obtain ⟨ns, e1, q⟩ := h
    obtain ⟨v, rfl, r⟩ := one_of rv
    obtain ⟨p, vs, rfl, h1, h2⟩ := res_lst rl r e
    rw [bls_rep h2 e1] at h1
    exact ⟨p, ns, rfl, SqL.of h1, k _ _ _ q (Nx.refl rl) (.bl _)⟩
  · exact h.elim
theorem bd_any : BiD W (rAny W.K) .any := by
  intro m L H vs xs Q Qd rl rv h k
  unfold biK at h
  split at h <;> try contradiction
  split at h
  · rename_i xs e
    obtain ⟨ns, e1, q⟩ := h
    obtain ⟨v, rfl, r⟩ := one_of rv
    obtain ⟨p, vs, rfl, h1, h2⟩ := res_lst rl r e
    rw [bls_rep h2 e1] at h1
    exact ⟨p, ns, rfl, SqL.of h1, k _ _ _ q (Nx.refl rl) (.bl _)⟩
  · exact h.elim
theorem seq_ok {m : Nb} {L : Hl} {H : Hp} {v : V} {x : D} {Qd : List D → Prop} (rl : RepL W m L H) (r : RepV W m L H v x) (h : seqK L x Qd) : ∃ p vs xs, v = .ref p ∧ RepVs W m L H vs xs ∧ Qd xs ∧ ((SqL W.K H p vs) ∨ (SqT W.K H p vs ∧ x = .tup xs)) := by
  unfold seqK at h
  split at h
  · rename_i xs ex
    obtain ⟨rfl, p, vs, rfl, h1, h2⟩ := res_tup r ex
    exact ⟨p, vs, xs, rfl, h2, h, .inr ⟨h1, rfl⟩⟩
  · rename_i xs ex
    obtain ⟨p, vs, rfl, h1, h2⟩ := res_lst rl r ex
    exact ⟨p, vs, xs, rfl, h2, h, .inl (SqL.of h1)⟩
  · rename_i xs ex
    obtain ⟨p, vs, rfl, h1, h2, _⟩ := res_scr r ex
    exact ⟨p, vs, xs, rfl, h2, h, .inl h1⟩
  · exact h.elim
def rTupOf (K : PySem.W.Frag) : List V → Hp → VK → Prop := fun xs H Q => ∃ p ys, xs = [.ref p] ∧ ((SqL K H p ys ∧ ∀ l, H l = none → Q (.ref l) (upd H l (.tup ys))) ∨ (SqT K H p ys ∧ Q (.ref p) H))
theorem bd_tuple : BiD W (rTupOf W.K) .tuple := by
  intro m L H vs xs Q Qd rl rv h k
  unfold biK at h
  split at h <;> try contradiction
  obtain ⟨v, rfl, r⟩ := one_of rv
  obtain ⟨p, vs, xs, rfl, h1, h2, h3⟩ := seq_ok rl r h
  rcases h3 with h3 | ⟨h3, rfl⟩
  · exact ⟨p, vs, rfl, .inl ⟨h3, fun l hl => k _ _ _ h2 (Nx.laid rl hl) (rep_tup rl hl h1)⟩⟩
  · exact ⟨p, vs, rfl, .inr ⟨h3, k _ _ _ h2 (Nx.refl rl) r⟩⟩
theorem bd_min2 : BiD W (fun xs H Q => ∃ i j, xs = [.int i, .int j] ∧ Q (.int (if j < i then j else i)) H) .min := by
  intro m L H vs xs Q Qd rl rv h k
  unfold biK at h
  split at h <;> try contradiction
  obtain ⟨v, u, rfl, r1, r2⟩ := two_of rv
  cases r1
  cases r2
  exact ⟨_, _, rfl, k _ _ _ h (Nx.refl rl) (.int _)⟩
theorem bd_max2 : BiD W (fun xs H Q => ∃ i j, xs = [.int i, .int j] ∧ Q (.int (if j > i then j else i)) H) .max := by
  intro m L H vs xs Q Qd rl rv h k
  unfold biK at h
  split at h <;> try contradiction
  obtain ⟨v, u, rfl, r1, r2⟩ := two_of rv
  cases r1
  cases r2
  exact ⟨_, _, rfl, k _ _ _ h (Nx.refl rl) (.int _)⟩
theorem noStar_any {env : Env} : ∀ {es : List Expr}, (es.all fun e => !starE e) = true → (starEach es env).any (·.1) = false
  | [], _ => rfl
  | e :: es, h => by
    rw [List.all_cons, Bool.and_eq_true] at h
    rw [star_of (by simpa using h.1), List.any_cons, noStar_any h.2]
    rfl
theorem back_any {l : List (Bool × Sem Value)} : (backTo pos l).any (·.1) = l.any (·.1) := by
  unfold backTo
  rw [List.any_map]
  rfl
theorem plain_args {env : Env} {es : List Expr} (h : (es.all fun e => !starE e) = true) : (backTo pos (starEach es env)).any (·.1) = false := by
  rw [back_any]
  exact noStar_any h
theorem chkEs_star : ∀ (ir : IEs) (es : List Expr), chkEs Γ ir es = true → (es.all fun e => !starE e) = true
  | .nil, es, h => by
    unfold chkEs at h
    split at h
    · rfl
    · cases h
  | .cons i ir, es, h => by
    unfold chkEs at h
    split at h
    · obtain ⟨h1, h2⟩ := b2 h
      rw [List.all_cons, chkE_star i _ h1, chkEs_star ir _ h2]
      rfl
    · cases h
def dBi (b : Bi) (t : TDs) : TD := fun ds L Q => t ds L fun xs L1 => biK b L1 xs fun z => Q z L1
/-- a built-in function, a built-in class, called -/
theorem callB_ok {b : Bi} {x : Str} {id : String} {p : Pos} {t : TDs} {r : List V → Hp → VK → Prop} (G : Good Φ B E k Γ X) (hx : Γ.gl x = true) (hm : X.mg x = none) (hv : bootBuiltins x = some (.builtin id)) (hc : CallR X (.builtin id) r) (hr : BiD (wd X) r b) (hs : ((e :: es).all fun e => !starE e) = true) (ha : DA X (wd X) B (e :: es) t) :
    DE X (wd X) B (.Call (.Name x p) (e :: es) [] pos) (dBi b t) := by
  rw [List.all_cons, Bool.and_eq_true] at hs
  obtain ⟨g1, g2, g3⟩ := G.gl hx
  exact peI (pe_callB hc g1 hm hv ha g3 g2 (star_of (by simpa using hs.1)) (plain_args hs.2)) fun σ H Q h => tCB_of hr h
theorem callTy_ok {b : Bi} {x : Str} {T : String} {p : Pos} {t : TDs} {r : List V → Hp → VK → Prop} (G : Good Φ B E k Γ X) (hx : Γ.gl x = true) (hm : X.mg x = none) (hv : bootBuiltins x = some (.type T)) (hc : CallR X (.type T) r) (hr : BiD (wd X) r b) (hs : ((e :: es).all fun e => !starE e) = true) (ha : DA X (wd X) B (e :: es) t) :
    DE X (wd X) B (.Call (.Name x p) (e :: es) [] pos) (dBi b t) := by
  rw [List.all_cons, Bool.and_eq_true] at hs
  obtain ⟨g1, g2, g3⟩ := G.gl hx
  exact peI (pe_callTy hc g1 hm hv ha g3 g2 (star_of (by simpa using hs.1)) (plain_args hs.2)) fun σ H Q h => tCB_of hr h
theorem bi_ok {b : Bi} {x : Str} {p : Pos} {t : TDs} (G : Good Φ B E k Γ X) (hx : Γ.gl x = true) (hb : x = Str.ofString (biName b)) (hs : ((e :: es).all fun e => !starE e) = true) (ha : DA X (wd X) B (e :: es) t) :
    DE X (wd X) B (.Call (.Name x p) (e :: es) [] pos) (dBi b t) := by
  cases b with
  | len => exact callB_ok G hx (by rw [hb]; exact G.blt _ (by decide +kernel)) (by rw [hb]; decide +kernel) call_len bd_len hs ha
  | abs => exact callB_ok G hx (by rw [hb]; exact G.blt _ (by decide +kernel)) (by rw [hb]; decide +kernel) call_abs bd_abs hs ha
  | min => exact callB_ok G hx (by rw [hb]; exact G.blt _ (by decide +kernel)) (by rw [hb]; decide +kernel) (call_min2 G.calm) bd_min2 hs ha
  | max => exact callB_ok G hx (by rw [hb]; exact G.blt _ (by decide +kernel)) (by rw [hb]; decide +kernel) (call_max2 G.calm) bd_max2 hs ha
  | sum => exact callB_ok G hx (by rw [hb]; exact G.blt _ (by decide +kernel)) (by rw [hb]; decide +kernel) (cr_sum G.calm) bd_sum hs ha
  | all => exact callB_ok G hx (by rw [hb]; exact G.blt _ (by decide +kernel)) (by rw [hb]; decide +kernel) (cr_all G.calm) bd_all hs ha
  | any => exact callB_ok G hx (by rw [hb]; exact G.blt _ (by decide +kernel)) (by rw [hb]; decide +kernel) (cr_any G.calm) bd_any hs ha
  | int => exact callTy_ok G hx (by rw [hb]; exact G.blt _ (by decide +kernel)) (by rw [hb]; decide +kernel) call_int1 bd_int hs ha
  | tuple => exact callTy_ok G hx (by rw [hb]; exact G.blt _ (by decide +kernel)) (by rw [hb]; decide +kernel) call_tuple_of bd_tuple hs ha

/-! ### isinstance -/
def tnStr : Tn → String
  | .non => "NoneType" | .bl => "bool" | .int => "int" | .str => "str" | .tup => "tuple" | .lst => "list" | .dct => "dict"
def tyStr : Ty → String
  | .int => "int" | .bool => "bool" | .str => "str" | .tuple => "tuple" | .list => "list" | .dict => "dict" | _ => ""
theorem tn_of {m : Nb} {L : Hl} {H : Hp} {v : V} {d : D} {n : Tn} (rl : RepL W m L H) (r : RepV W m L H v d) (h : tnOf L d = some n) (hn : n ≠ .dct) : TyX W.K H v (.type (tnStr n)) := by
  unfold tnOf at h
  split at h <;> cases h
  · rename_i e; rw [res_non r e]; exact .base .non
  · rename_i e; rw [res_bl r e]; exact .base (.bl _)
  · rename_i e; rw [res_int r e]; exact .base (.int _)
  · rename_i e; rw [(res_str r e).1]; exact .base (.str _)
  · rename_i e
    obtain ⟨rfl, p, vs, rfl, h1, h2⟩ := res_tup r e
    rcases h1 with (h1 | ⟨o, h1⟩) | ⟨o, its, j, h1, h3, _⟩
    · exact .base (.tup h1)
    · exact .fTuple h1
    · exact .kTuple h1 h3
  · rename_i e
    obtain ⟨p, vs, rfl, h1, h2⟩ := res_lst rl r e
    exact .base (.lst h1)
  · rename_i e
    obtain ⟨p, vs, rfl, _, h2, h1⟩ := res_scr r e
    rcases h1 with ⟨o, h1⟩ | ⟨o, its, j, h1, h3, _⟩
    · exact .base (.frz h1)
    · exact .kList h1 h3
  · exact absurd rfl hn
theorem kit_int : ∀ n, kitB (tnStr n) "int" = some (tnIs .int n) := by intro n; cases n <;> decide +kernel
theorem kit_bool : ∀ n, kitB (tnStr n) "bool" = some (tnIs .bool n) := by intro n; cases n <;> decide +kernel
theorem kit_str : ∀ n, kitB (tnStr n) "str" = some (tnIs .str n) := by intro n; cases n <;> decide +kernel
theorem kit_tuple : ∀ n, kitB (tnStr n) "tuple" = some (tnIs .tuple n) := by intro n; cases n <;> decide +kernel
theorem kit_list : ∀ n, kitB (tnStr n) "list" = some (tnIs .list n) := by intro n; cases n <;> decide +kernel
theorem kit_dict : ∀ n, kitB (tnStr n) "dict" = some (tnIs .dict n) := by intro n; cases n <;> decide +kernel
theorem kit_seq {K : PySem.W.Frag} (n : Tn) : PySem.W.kitAny K (.type (tnStr n)) [.type "list", .type "tuple"] = some (tnIs .seq n) := by
  have h1 := kit_ty (K := K) (kit_list n)
  have h2 := kit_ty (K := K) (kit_tuple n)
  refine kitAny_cons h1 (fun e => kitAny_cons h2 (fun e2 => ?_) fun e2 => ?_) fun e => ?_
  · rw [kitAny_nil]
    cases n <;> first | rfl | (cases e; done) | (cases e2; done)
  · cases n <;> first | rfl | (cases e2; done)
  · cases n <;> first | rfl | (cases e; done)
/-- a value's type, dicts of tuples too -/
def TyY (K : PySem.W.Frag) (H : Hp) (x : V) (t : Value) : Prop := TyX K H x t ∨ (t = .type "dict" ∧ ∃ (a : Addr) (ob : Obj), x = .ref a ∧ H a = some (.ext fun h => h.get? a = some ob) ∧ ob.cls = .type "dict")
theorem ty_of {m : Nb} {L : Hl} {H : Hp} {v : V} {d : D} {n : Tn} (rl : RepL W m L H) (r : RepV W m L H v d) (h : tnOf L d = some n) : TyY W.K H v (.type (tnStr n)) := by
  by_cases hn : n = .dct
  · subst hn
    unfold tnOf at h
    split at h <;> cases h
    rename_i t ks vs e
    obtain ⟨p, kv, vv, rfl, h1, _⟩ := res_dct rl r e
    cases t with
    | false =>
      obtain ⟨kvs, h1, _⟩ := h1
      exact .inl (.base (.dK h1))
    | true =>
      obtain ⟨_, ob, _, _, h1, _, _, h2, _⟩ := h1
      exact .inr ⟨rfl, p, ob, rfl, h1, h2.1⟩
  · exact .inl (tn_of rl r h hn)
def rIsiY (K : PySem.W.Frag) : List V → Hp → VK → Prop := fun xs H Q => ∃ (x c : V) (t u : Value) (b : Bool), xs = [x, c] ∧ ClsV c u ∧ TyY K H x t ∧ PySem.W.kitOne K t u = some b ∧ Q (.bl b) H
theorem call_isiY : CallR X (.builtin "isinstance") (rIsiY X.K) := by
  intro pins s σ H xs us Q I r ⟨x, c, t, u, b, e1, k, ty, e, q⟩
  rcases ty with ty | ⟨rfl, a, ob, rfl, h1, h2⟩
  · exact call_isi pins s σ H xs us Q I r ⟨x, c, t, u, b, e1, k, ty, e, q⟩
  · subst e1
    obtain ⟨u1, u2, rfl, r1, r2⟩ := vals2 r
    cases (show u1 = Value.ref a from r1)
    have e2 := k.eq r2
    subst e2
    have hob : s.heap.get? a = some ob := (I.hok a _ h1).1
    exact PySem.W.kia_one PySem.W.kitx_dict I.kIn ⟨ob, hob, h2⟩ e (fun z => nomatch z) fun tk => ⟨.bl b, H, I.tok tk, rfl, q⟩
/-- .. of a tuple of classes that was just laid -/
def rIsiTY (K : PySem.W.Frag) : List V → Hp → VK → Prop := fun xs H Q => ∃ (x : V) (tp : Addr) (cs : List V) (t : Value) (us : List Value) (b : Bool), xs = [x, .ref tp] ∧ H tp = some (.tup cs) ∧ Paired ClsV cs us ∧ TyY K H x t ∧ PySem.W.kitAny K t us = some b ∧ Q (.bl b) H
theorem call_isiTY : CallR X (.builtin "isinstance") (rIsiTY X.K) := by
  intro pins s σ H xs us Q I r ⟨x, tp, cs, t, ws, b, e1, hT, k, ty, e, q⟩
  rcases ty with ty | ⟨rfl, a, ob, rfl, h1, h2⟩
  · exact call_isiT pins s σ H xs us Q I r ⟨x, tp, cs, t, ws, b, e1, hT, k, ty, e, q⟩
  · subst e1
    obtain ⟨u1, u2, rfl, r1, r2⟩ := vals2 r
    cases (show u1 = Value.ref a from r1)
    cases (show u2 = Value.ref tp from r2)
    have hob : s.heap.get? a = some ob := (I.hok a _ h1).1
    obtain ⟨_, its, rv, o, g1, g2, n, g3⟩ := (show ObjOk X.prog X.w H s.heap tp (.tup cs) from I.hok tp _ hT)
    have e3 := ClsV.all k rv
    subst e3
    obtain ⟨oc, od, dt, sl⟩ := o
    simp only at g2 g3
    subst g2 g3
    exact PySem.W.kia_tup PySem.W.kitx_dict I.kIn ⟨ob, hob, h2⟩ g1 e (fun z => nomatch z) fun tk => ⟨.bl b, H, I.tok tk, rfl, q⟩
def dIsi (t : Ty) (ta : TD) : TD := fun ds L Q => ta ds L fun x L1 => isTy t L1 x fun b => Q (.bl b) L1
theorem isi_one {ta : TD} {t : Ty} {x y : Str} {p p2 : Pos} {T : String} (G : Good Φ B E k Γ X) (hx : Γ.gl x = true) (hxe : x = Str.ofString "isinstance") (hy : Γ.gl y = true) (hm : X.mg y = none) (hv : bootBuiltins y = some (.type T)) (hk : ∀ n, kitB (tnStr n) T = some (tnIs t n)) (hc : ∀ c, t ≠ .cls c)
    (hs : starE e = false) (ha : DE X (wd X) B e ta) : DE X (wd X) B (.Call (.Name x p) [e, .Name y p2] [] pos) (dIsi t ta) := by
  obtain ⟨g1, g2, g3⟩ := G.gl hx
  obtain ⟨f1, f2, f3⟩ := G.gl hy
  have pa := pa_cons ha (pa_cons (pe_bltn (v := .ty T) (pos := p2) f1 hm hv rfl f3 f2) pa_nil) (star_of hs)
  refine peI (pe_callB call_isiY g1 (by rw [hxe]; exact G.blt _ (by decide +kernel)) (by rw [hxe]; decide +kernel) pa g3 g2 (star_of hs)) fun σ H Q ⟨m, L, ds, Qd, S, q, c⟩ => ?_
  refine ⟨m, L, ds, _, S, q, fun d L1 v m1 H1 q1 st1 rl1 r1 => ?_⟩
  have q1 : ∃ n, tnOf L1 d = some n ∧ Qd (.bl (tnIs t n)) L1 := by
    cases t with
    | cls c => exact absurd rfl (hc c)
    | _ => exact q1
  obtain ⟨n, e1, q1⟩ := q1
  exact ⟨v, .ty T, _, .type T, _, rfl, .ty T, ty_of rl1 r1 e1, kit_ty (hk n), c _ L1 _ m1 H1 q1 st1 rl1 (.bl _)⟩
theorem isi_seq {ta : TD} {x y z : Str} {p p2 p3 p4 : Pos} {j : Nat} (G : Good Φ B E k Γ X) (hx : Γ.gl x = true) (hxe : x = Str.ofString "isinstance") (hy : Γ.gl y = true) (hye : y = Str.ofString "list") (hz : Γ.gl z = true) (hze : z = Str.ofString "tuple")
    (hs : starE e = false) (ha : DE X (wd X) B e ta) : DE X (wd X) B (.Call (.Name x p) [e, .Tuple [.Name y p2, .Name z p3] j p4] [] pos) (dIsi .seq ta) := by
  obtain ⟨g1, g2, g3⟩ := G.gl hx
  obtain ⟨f1, f2, f3⟩ := G.gl hy
  obtain ⟨h1, h2, h3⟩ := G.gl hz
  have e1 : PE X (.Name y p2) (tC (.ty "list")) := pe_bltn (v := .ty "list") f1 (by rw [hye]; exact G.blt _ (by decide +kernel)) (u := .type "list") (by rw [hye]; decide +kernel) rfl f3 f2
  have e2 : PE X (.Name z p3) (tC (.ty "tuple")) := pe_bltn (v := .ty "tuple") h1 (by rw [hze]; exact G.blt _ (by decide +kernel)) (u := .type "tuple") (by rw [hze]; decide +kernel) rfl h3 h2
  have pa := pa_cons ha (pa_cons (pe_tup (x1 := j) (pos := p4) (pa_cons e1 (pa_cons e2 pa_nil))) pa_nil) (star_of hs)
  refine peI (pe_callB call_isiTY g1 (by rw [hxe]; exact G.blt _ (by decide +kernel)) (by rw [hxe]; decide +kernel) pa g3 g2 (star_of hs)) fun σ H Q ⟨m, L, ds, Qd, S, q, c⟩ => ?_
  refine ⟨m, L, ds, _, S, q, fun d L1 v m1 H1 q1 st1 rl1 r1 => ?_⟩
  have q1 : ∃ n, tnOf L1 d = some n ∧ Qd (.bl (tnIs .seq n)) L1 := q1
  obtain ⟨n, e1, q1⟩ := q1
  refine ⟨by show 2 ≤ sizeLine; decide, fun tp htp => ?_⟩
  exact ⟨v, tp, _, _, [.type "list", .type "tuple"], _, rfl, upd_same, .cons (.ty "list") (.cons (.ty "tuple") .nil), ty_of (rl1.laid htp) (r1.step (Step.laid htp)) e1, kit_seq n, c _ L1 _ m1 _ q1 (st1.trans (Step.laid htp)) (rl1.laid htp) (.bl _)⟩
end
end Nr

/-! Calls of defs; new lists; what is walked. -/
namespace Nr
open PySem PySem.Spec PyProof.Rows L2
section
variable {Φ : Phi} {B : Option En} {E : XS} {k : Nat} {Γ : Gm} {X : Cx} {W : Wd} {e : Expr} {es : List Expr} {pos : Pos}
/-- the callee runs -/
theorem run_def {φ : List D → Hl → QE → XH → Prop} {fa : Addr} {fd : FuncData} {ps : List Str} {args : Args} {m : Nb} {L : Hl} {ds : Ds} {Qd : QE} {pins : List (Addr × Obj)} {σ : L2.St} {H : Hp} {s : Shared} {Q : VK} {us : List Value} {vs : List V} {xs : List D}
    (F : FnOk X.prog X.w X.K X.mg X.base (L2.CX X.prog X.w) k fa fd ps (lSp (wd X) φ)) (hr : Room k X.A) (tk : Takes X (lW (wd X) B E)) (hb : BindsTo s fd args (ps.zip us)) (I : Inv X pins σ H s) (S : Sit (wd X) B m L ds σ H) (r : Vals vs us) (rv : RepVs (wd X) m L H vs xs)
    (h : φ xs L Qd (xh E ds)) (c : ∀ d L' v m' H', Qd d L' → Step m L H m' L' H' → RepL (wd X) m' L' H' → RepV (wd X) m' L' H' v d → Q v H') : codeAny (model X.prog X.w) X.A (.call (.ref fa) args) (fun r s' => match r with | .ok (.ret u) => EP X pins σ Q u s' | .ok _ => False | .error e => X.xe e s') s := by
  have hs : lSp (wd X) φ vs H Q (fun cls d H' => lW (wd X) B E cls d σ H') :=
    ⟨m, L, xs, Qd, xh E ds, S.rl, rv, h, c, fun x L' cls m' H' he hc st rl => ⟨x, m', L', ds, hc, rfl, S.nx st rl, he⟩⟩
  refine codeAny_mono (F.run X.A X.stack s H args us vs Q _ hr I.env0 hb r hs) fun res s' hq => ?_
  cases res with
  | error x => exact tk x s' (XE.of_call I (fun _ _ _ z => z) hq)
  | ok fl => cases fl with
    | ret u => exact I.after hq
    | _ => exact hq.elim
theorem fn_len {φ : List D → Hl → QE → XH → Prop} {fa : Addr} {fd : FuncData} {ps : List Str} (F : FnOk X.prog X.w X.K X.mg X.base (L2.CX X.prog X.w) k fa fd ps (lSp (wd X) φ)) {m : Nb} {L : Hl} {H : Hp} {vs : List V} {xs : List D} {Qd : QE} {Ed : XH} (rl : RepL (wd X) m L H) (rv : RepVs (wd X) m L H vs xs) (h : φ xs L Qd Ed) : vs.length = ps.length :=
  F.len vs H (fun v H' => True) (fun _ _ _ => True) ⟨m, L, xs, Qd, Ed, rl, rv, h, fun _ _ _ _ _ _ _ _ _ => trivial, fun _ _ _ _ _ _ _ _ _ => trivial⟩
def dCall (Φ : Phi) (E : XS) (f : Str) (t : TDs) : TD := fun ds L Q => t ds L fun xs L1 => Φ f xs L1 Q (xh E ds)
theorem after_run {f : Value} {args : Args} {s : Shared} {Q : Value → Shared → Prop} (h : codeAny (model X.prog X.w) X.A (.call f args) (fun r s' => match r with | .ok (.ret u) => Q u s' | .ok _ => False | .error e => X.xe e s') s) : wpAny (model X.prog X.w) X.A (call f args.pos args.kw) Q X.xe s := by
  refine wpAny_call (codeAny_mono h fun r s' hq => ?_)
  cases r with
  | error x => exact hq
  | ok fl => cases fl with
    | ret u => exact hq
    | _ => exact hq.elim
theorem fin_call {f : Str} {fa : Addr} {us : List Value} {s1 : Shared} {vs : List V} {H H1 : Hp} {m m1 : Nb} {L L1 : Hl} {ds : Ds} {σ : L2.St} {xs : List D} {Qd : QE} {Q : VK} {pins : List (Addr × Obj)} (G : Good Φ B E k Γ X) (hm : X.mg f = some (.ref fa)) (S : Sit (wd X) B m L ds σ H) (I1 : Inv X pins σ H1 s1) (r : Vals vs us) (q1 : Φ f xs L1 Qd (xh E ds)) (st1 : Step m L H m1 L1 H1) (rl1 : RepL (wd X) m1 L1 H1) (rv : RepVs (wd X) m1 L1 H1 vs xs)
    (c : ∀ d L' v m' H', Qd d L' → Step m L H m' L' H' → RepL (wd X) m' L' H' → RepV (wd X) m' L' H' v d → Q v H') : wpAny (model X.prog X.w) X.A (call (.ref fa) us) (EP X pins σ Q) X.xe s1 := by
  obtain ⟨fa', fd, ps, hm', hk, F, hb, _⟩ := (G.call f xs L1 Qd _ q1).ok
  have hm' : X.mg f = some (.ref fa') := hm'
  rw [hm] at hm'
  cases hm'
  have hl := fn_len F rl1 rv q1
  exact after_run (args := ⟨us, []⟩) (run_def F G.room G.tk (hb s1 us I1.kIn (r.length.symm.trans hl)) I1 (S.nx st1 rl1) r rv q1 fun d L' v m' H' qd st rl rv => c d L' v m' H' qd (st1.trans st) rl rv)
theorem call0_ok {f : Str} {p : Pos} (G : Good Φ B E k Γ X) (hx : Γ.gl f = true) (hf : Γ.fns.contains f = true) : DE X (wd X) B (.Call (.Name f p) [] [] pos) (dCall Φ E f fun ds L Q => Q [] L) := by
  obtain ⟨g1, g2, g3⟩ := G.gl hx
  obtain ⟨fa, hm, hk⟩ := G.fns f (by simpa using hf)
  refine ⟨fun pins s σ H Q I ⟨m, L, ds, Qd, S, q, c⟩ => wpAny_Call_Name_kw (ld_glob I g1 hm (PySem.W.callWith_K0 I.kIn hk ?_) g2)⟩
  exact fin_call (us := []) G hm S I .nil q Step.refl S.rl .nil c
theorem call_ok {f : Str} {p : Pos} {t : TDs} (G : Good Φ B E k Γ X) (hx : Γ.gl f = true) (hf : Γ.fns.contains f = true) (hs : ((e :: es).all fun e => !starE e) = true) (ha : DA X (wd X) B (e :: es) t) : DE X (wd X) B (.Call (.Name f p) (e :: es) [] pos) (dCall Φ E f t) := by
  obtain ⟨g1, g2, g3⟩ := G.gl hx
  obtain ⟨fa, hm, hk⟩ := G.fns f (by simpa using hf)
  rw [List.all_cons, Bool.and_eq_true] at hs
  refine ⟨fun pins s σ H Q I ⟨m, L, ds, Qd, S, q, c⟩ => ?_⟩
  have hargs := ha.run pos pins s σ H (fun vs H1 => ∃ m1 L1 xs, Φ f xs L1 Qd (xh E ds) ∧ Step m L H m1 L1 H1 ∧ RepL (wd X) m1 L1 H1 ∧ RepVs (wd X) m1 L1 H1 vs xs) I ⟨m, L, ds, _, S, q, fun xs L1 vs m1 H1 q1 st1 rl1 rv => ⟨m1, L1, xs, q1, st1, rl1, rv⟩⟩
  refine wpAny_Call_Name_kw (ld_glob I g1 hm (PySem.W.callWith_K (h₀ := X.base) I.ok.mod.kin hk (thn hargs fun us s1 ⟨vs, H1, I1, r, m1, L1, xs, q1, st1, rl1, rv⟩ => ⟨I1.kIn, ?_⟩) (star_of (by simpa using hs.1)) (plain_args hs.2)) g2)
  exact fin_call G hm S I1 r q1 st1 rl1 rv c
/-! ### keywords -/
def lK (W : Wd) (B : Option En) (t : TDs) : TA := lA W B t
abbrev DK (X : Cx) (W : Wd) (B : Option En) (ks : List Keyword) (t : TDs) : Prop := L2.PK X ks (lA W B t)
theorem k_nil : DK X W B [] (fun _ L Q => Q [] L) := ⟨fun pos pins s σ H Q I ⟨m, L, ds, Qd, S, q, c⟩ => pk_nil.run pos pins s σ H Q I (c [] L [] m H q Step.refl S.rl .nil)⟩
theorem k_cons {t : TD} {u : TDs} {nm : Option Str} {kp : Pos} {ks : List Keyword} (h : DE X W B e t) (hr : DK X W B ks u) : DK X W B (⟨nm, e, kp⟩ :: ks) (fun ds L Q => t ds L fun x L1 => u ds L1 fun xs L2 => Q (x :: xs) L2) :=
  ⟨fun pos pins s σ H Q I ⟨m, L, ds, Qd, S, q, c⟩ => (pk_cons h hr).run pos pins s σ H Q I
    ⟨m, L, ds, _, S, q, fun x L1 v m1 H1 q1 st1 rl1 rv => ⟨m1, L1, ds, _, S.nx st1 rl1, q1, fun xs L2 vs m2 H2 q2 st2 rl2 rvs => c _ L2 _ m2 H2 q2 (st1.trans st2) rl2 (.cons (rv.step st2) rvs)⟩⟩⟩
theorem kw_names {env : Env} : ∀ (kws : List Keyword), (backToKw pos (keywordEach kws env)).filterMap (·.1) = kws.filterMap (·.arg)
  | [] => rfl
  | ⟨n, v, p⟩ :: r => by
    have ih := kw_names (env := env) r
    unfold backToKw at ih ⊢
    show List.filterMap _ ((n, _) :: List.map _ (keywordEach r env)) = _
    rw [List.filterMap_cons, List.filterMap_cons, ih]
theorem kw_all {env : Env} : ∀ (kws : List Keyword), (kws.all fun k => k.arg.isSome) = true → (backToKw pos (keywordEach kws env)).all (·.1.isSome) = true ∧ (backToKw pos (keywordEach kws env)).any (·.1.isNone) = false
  | [], _ => ⟨rfl, rfl⟩
  | ⟨n, v, p⟩ :: r, h => by
    rw [List.all_cons, Bool.and_eq_true] at h
    obtain ⟨i1, i2⟩ := kw_all (env := env) r h.2
    unfold backToKw at i1 i2 ⊢
    show List.all ((n, _) :: List.map _ (keywordEach r env)) _ = true ∧ List.any ((n, _) :: List.map _ (keywordEach r env)) _ = false
    rw [List.all_cons, List.any_cons, i1, i2]
    cases n with
    | none => exact absurd h.1 (fun z => by cases z)
    | some n => exact ⟨rfl, rfl⟩
theorem perm_rep {m : Nb} {L : Hl} {H : Hp} {vs : List V} {xs : List D} (r : RepVs W m L H vs xs) : ∀ perm : List Nat, RepVs W m L H (perm.filterMap fun i => vs[i]?) (permD perm xs)
  | [] => .nil
  | i :: perm => by
    unfold permD
    rw [List.filterMap_cons, List.filterMap_cons]
    have ih := perm_rep r perm
    unfold permD at ih
    cases e : xs[i]? with
    | none =>
      have : vs[i]? = none := by
        rw [List.getElem?_eq_none_iff] at e ⊢
        rw [r.length]; exact e
      rw [this]
      exact ih
    | some d =>
      obtain ⟨v, e2, h⟩ := r.getD e
      rw [e2]
      exact .cons h ih
theorem perm_vals {vs : List V} {us : List Value} (r : Vals vs us) : ∀ perm : List Nat, Vals (perm.filterMap fun i => vs[i]?) (perm.filterMap fun i => us[i]?)
  | [] => .nil
  | i :: perm => by
    rw [List.filterMap_cons, List.filterMap_cons]
    have ih := perm_vals r perm
    cases e : vs[i]? with
    | none => rw [r.none_of e]; exact ih
    | some v =>
      obtain ⟨u, e2, h⟩ := r.get e
      rw [e2]
      exact .cons h ih
def dCallK (Φ : Phi) (E : XS) (f : Str) (perm : List Nat) (n j : Nat) (t u : TDs) : TD := fun ds L Q => t ds L fun xs L1 => u ds L1 fun ys L2 => (xs.length = n ∧ ys.length = j) ∧ Φ f (permD perm (xs ++ ys)) L2 Q (xh E ds)
theorem names_len : ∀ {kws : List Keyword}, (kws.all fun k => k.arg.isSome) = true → (kws.filterMap (·.arg)).length = kws.length
  | [], _ => rfl
  | ⟨n, v, p⟩ :: r, h => by
    rw [List.all_cons, Bool.and_eq_true] at h
    cases n with
    | none => exact absurd h.1 (fun z => by cases z)
    | some n => rw [List.filterMap_cons]; exact congrArg (· + 1) (names_len h.2)
theorem fin_callK {f : Str} {fa : Addr} {us ws : List Value} {s1 : Shared} {vs zs : List V} {H H1 : Hp} {m m1 : Nb} {L L1 : Hl} {ds : Ds} {σ : L2.St} {xs ys : List D} {Qd : QE} {Q : VK} {pins : List (Addr × Obj)} {perm : List Nat} {ks : List Str} (G : Good Φ B E k Γ X) (hm : X.mg f = some (.ref fa)) (S : Sit (wd X) B m L ds σ H) (I1 : Inv X pins σ H1 s1) (r : Vals vs us) (rz : Vals zs ws)
    (hk : (f, xs.length, ks, perm) ∈ Γ.kws) (hl : ys.length = ks.length) (q1 : Φ f (permD perm (xs ++ ys)) L1 Qd (xh E ds)) (st1 : Step m L H m1 L1 H1) (rl1 : RepL (wd X) m1 L1 H1) (rv : RepVs (wd X) m1 L1 H1 vs xs) (rw' : RepVs (wd X) m1 L1 H1 zs ys)
    (c : ∀ d L' v m' H', Qd d L' → Step m L H m' L' H' → RepL (wd X) m' L' H' → RepV (wd X) m' L' H' v d → Q v H') : wpAny (model X.prog X.w) X.A (call (.ref fa) us (ks.zip ws)) (EP X pins σ Q) X.xe s1 := by
  obtain ⟨fa', fd, ps, hm', hk', F, _, hb⟩ := (G.call f _ L1 Qd _ q1).ok
  have hm' : X.mg f = some (.ref fa') := hm'
  rw [hm] at hm'
  cases hm'
  obtain ⟨hp, hp2, hb⟩ := hb _ _ _ hk
  exact after_run (args := ⟨us, ks.zip ws⟩) (run_def F G.room G.tk (hb s1 us ws I1.kIn (r.length.symm.trans rv.length) ((rz.length.symm.trans rw'.length).trans hl)) I1 (S.nx st1 rl1) (perm_vals (r.append rz) perm) (perm_rep (rv.append rw') perm) q1 fun d L' v m' H' qd st rl rv => c d L' v m' H' qd (st1.trans st) rl rv)
theorem callk_ok {f : Str} {p : Pos} {t u : TDs} {kws : List Keyword} {perm : List Nat} {n j : Nat} (G : Good Φ B E k Γ X) (hx : Γ.gl f = true) (hf : Γ.fns.contains f = true) (hs : (es.all fun e => !starE e) = true) (hall : (kws.all fun k => k.arg.isSome) = true) (hn : n = es.length) (hj : j = kws.length) (hk : (f, es.length, kws.filterMap (·.arg), perm) ∈ Γ.kws)
    (ha : DA X (wd X) B es t) (h0 : es = [] → t = fun ds L Q => Q [] L) (hu : DK X (wd X) B kws u) : DE X (wd X) B (.Call (.Name f p) es kws pos) (dCallK Φ E f perm n j t u) := by
  obtain ⟨g1, g2, g3⟩ := G.gl hx
  obtain ⟨fa, hm, hk'⟩ := G.fns f (by simpa using hf)
  subst hn hj
  refine ⟨fun pins s σ H Q I ⟨m, L, ds, Qd, S, q, c⟩ => ?_⟩
  obtain ⟨a1, a2⟩ := kw_all (pos := pos) (env := X.env) kws hall
  have hkw : ∀ (us : List Value) (s1 : Shared) (vs : List V) (H1 : Hp) (m1 : Nb) (L1 : Hl) (xs : List D), Inv X pins σ H1 s1 → Vals vs us → Step m L H m1 L1 H1 → RepL (wd X) m1 L1 H1 → RepVs (wd X) m1 L1 H1 vs xs →
      (u ds L1 fun ys L2 => (xs.length = es.length ∧ ys.length = kws.length) ∧ Φ f (permD perm (xs ++ ys)) L2 Qd (xh E ds)) →
      wpAny (model X.prog X.w) X.A (evalAll ((backToKw pos (keywordEach kws X.env)).map (·.2))) (fun ks s₂ => X.K.In s₂.heap ∧ wpAny (model X.prog X.w) X.A (call (.ref fa) us (((backToKw pos (keywordEach kws X.env)).filterMap (·.1)).zip ks)) (EP X pins σ Q) X.xe s₂) X.xe s1 := by
    intro us s1 vs H1 m1 L1 xs I1 r st1 rl1 rv q1
    refine thn (hu.run pos pins s1 σ H1 (fun zs H2 => ∃ m2 L2 ys, ((xs.length = es.length ∧ ys.length = kws.length) ∧ Φ f (permD perm (xs ++ ys)) L2 Qd (xh E ds)) ∧ Step m L H m2 L2 H2 ∧ RepL (wd X) m2 L2 H2 ∧ RepVs (wd X) m2 L2 H2 vs xs ∧ RepVs (wd X) m2 L2 H2 zs ys) I1
      ⟨m1, L1, ds, _, S.nx st1 rl1, q1, fun ys L2 zs m2 H2 q2 st2 rl2 rz => ⟨m2, L2, ys, q2, st1.trans st2, rl2, rv.step st2, rz⟩⟩) fun ws s2 ⟨zs, H2, I2, rz, m2, L2, ys, ⟨⟨l1, l2⟩, q2⟩, st2, rl2, rv2, rz2⟩ => ⟨I2.kIn, ?_⟩
    rw [kw_names]
    exact fin_callK G hm S I2 r rz (by rw [l1]; exact hk) (by rw [l2, names_len hall]) q2 st2 rl2 rv2 rz2 c
  cases es with
  | nil =>
    refine wpAny_Call_Name_kw (ld_glob I g1 hm (PySem.W.callWith_KW0 (h₀ := X.base) I.ok.mod.kin hk' a1 ?_ (by rw [a2]; rfl)) g2)
    rw [h0 rfl] at q
    exact hkw [] s [] H m L [] I .nil Step.refl S.rl .nil q
  | cons e es =>
    have hs' := hs
    rw [List.all_cons, Bool.and_eq_true] at hs
    have hargs := ha.run pos pins s σ H (fun vs H1 => ∃ m1 L1 xs, (u ds L1 fun ys L2 => (xs.length = (e :: es).length ∧ ys.length = kws.length) ∧ Φ f (permD perm (xs ++ ys)) L2 Qd (xh E ds)) ∧ Step m L H m1 L1 H1 ∧ RepL (wd X) m1 L1 H1 ∧ RepVs (wd X) m1 L1 H1 vs xs) I ⟨m, L, ds, _, S, q, fun xs L1 vs m1 H1 q1 st1 rl1 rv => ⟨m1, L1, xs, q1, st1, rl1, rv⟩⟩
    refine wpAny_Call_Name_kw (ld_glob I g1 hm (PySem.W.callWith_KW (h₀ := X.base) I.ok.mod.kin hk' a1 (thn hargs fun us s1 ⟨vs, H1, I1, r, m1, L1, xs, q1, st1, rl1, rv⟩ => ?_) ?_ (star_of (by simpa using hs.1))) g2)
    · exact hkw us s1 vs H1 m1 L1 xs I1 r st1 rl1 rv q1
    · rw [plain_args hs', a2]
      rfl
end
end Nr

/-! What is walked. -/
namespace Nr
open PySem PySem.Spec PyProof.Rows L2
/-- a later state: what is reserved may have changed -/
structure Wk (m : Nb) (L : Hl) (H : Hp) (m' : Nb) (L' : Hl) (H' : Hp) : Prop where
  hk : ∀ a o, H a = some o → Apart m L a → H' a = some o ∧ Apart m' L' a
  hl : L.length ≤ L'.length
  hi : ∀ i, i < L.length → m'.m i = m.m i
section
variable {W : Wd} {m m' m1 m2 : Nb} {L L' L1 L2 : Hl} {H H' H1 H2 : Hp}
theorem Step.wk (st : Step m L H m' L' H') : Wk m L H m' L' H' := ⟨fun a o e ap => ⟨st.keep a o e ap.1, st.apart (some_ne e) ap⟩, st.len, st.ids⟩
theorem Wk.refl : Wk m L H m L H := Step.refl.wk
theorem Wk.trans (a : Wk m L H m1 L1 H1) (b : Wk m1 L1 H1 m2 L2 H2) : Wk m L H m2 L2 H2 :=
  ⟨fun x o e ap => b.hk x o (a.hk x o e ap).1 (a.hk x o e ap).2, Nat.le_trans a.hl b.hl, fun i hi => (b.hi i (Nat.lt_of_lt_of_le hi a.hl)).trans (a.hi i hi)⟩
theorem Wk.updR {p : Addr} {o : HO} (hp : p ∈ m.r) : Wk m L H m L (upd H p o) :=
  ⟨fun a x e ap => ⟨by
    have ne : a ≠ p := fun z => ap.2 (by rw [z]; exact hp)
    rw [upd_ne ne]; exact e, ap⟩, Nat.le_refl _, fun _ _ => rfl⟩
theorem RepV.wk (k : Wk m L H m' L' H') {v : V} {d : D} (h : RepV W m L H v d) : RepV W m' L' H' v d := h.renum k.hk k.hl k.hi
theorem RepVs.wk (k : Wk m L H m' L' H') {v : List V} {d : List D} (h : RepVs W m L H v d) : RepVs W m' L' H' v d := h.renum k.hk k.hl k.hi
theorem Wk.rd (k : Wk m L H m' L' H') {a : Addr} {u : HO} (h : Rd H a u) (ap : Apart m L a) : Rd H' a u := by
  rcases h with h | ⟨o, h⟩
  · exact .inl (k.hk a _ h ap).1
  · exact .inr ⟨o, (k.hk a _ h ap).1⟩
/-- the reserved list changes -/
theorem RepL.updR {p : Addr} {o : HO} (r : RepL W m L H) (hp : p ∈ m.r) : RepL W m L (upd H p o) := by
  refine ⟨fun i x e => ?_, r.inj, fun a z n => ?_, r.nr⟩
  · cases x with
    | dead => trivial
    | _ => exact (r.ob i _ e).renum (Wk.updR hp).hk (Nat.le_refl _) (fun _ _ => rfl) fun u h => by
            have ne : m.m i ≠ p := fun z => r.nr i ⟨_, e, trivial⟩ (by rw [z]; exact hp)
            rw [upd_ne ne]
            exact h
  · by_cases e : a = p
    · rw [e, upd_same] at n; cases n
    · rw [upd_ne e] at n; exact r.res a z n
theorem Step.updR {p : Addr} {o : HO} (st : Step m L H m' L' H') (hp : H p = none) : Step m L H m' L' (upd H' p o) where
  len := st.len
  ids := st.ids
  rs := st.rs
  live := st.live
  keep := fun a x e ap => by rw [upd_ne (ne_of_none e hp)]; exact st.keep a x e ap
  there := fun a n => by
    by_cases e : a = p
    · rw [e, upd_same] at n; cases n
    · rw [upd_ne e] at n; exact st.there a n
  new := st.new
end
/-- the iterator J tells the items of s, from a state on -/
structure Walk (W : Wd) (m : Nb) (L : Hl) (H : Hp) (J : It) (s : Src) : Prop where
  go : ∀ (i : Nat) (d : D) (m1 : Nb) (L1 : Hl) (H1 : Hp), s.items[i]? = some d → Wk m L H m1 L1 H1 → RepL W m1 L1 H1 → s.ok L1 → J.go i H1 ∧ ∀ x H2, J.yld i H1 x H2 → Nx W m1 L1 H1 H2 ∧ RepV W m1 L1 H2 x d
  stop : ∀ (m1 : Nb) (L1 : Hl) (H1 : Hp), Wk m L H m1 L1 H1 → RepL W m1 L1 H1 → s.ok L1 → J.stop s.items.length H1
abbrev TDi := Ds → Hl → (Src → Hl → Prop) → Prop
def lI (W : Wd) (B : Option En) (t : TDi) : TI := fun σ H R => ∃ (m : Nb) (L : Hl) (ds : Ds) (Qd : Src → Hl → Prop), Sit W B m L ds σ H ∧ t ds L Qd ∧
  ∀ s L' m' H' J, Qd s L' → Step m L H m' L' H' → RepL W m' L' H' → Walk W m' L' H' J s → R J H'
abbrev DI (X : Cx) (W : Wd) (B : Option En) (tg it : Expr) (t : TDi) : Prop := PI X tg it (lI W B t)
section
variable {Φ : Phi} {B : Option En} {E : XS} {k : Nat} {Γ : Gm} {X : Cx} {W : Wd} {e tg : Expr} {es : List Expr} {pos : Pos}
theorem piI {t t' : TI} (h : PI X tg e t) (c : ∀ σ H R, t' σ H R → t σ H R) : PI X tg e t' := ⟨fun pins s σ H R I q => h.run pins s σ H R I (c σ H R q)⟩
/-- a list or a tuple, by its value -/
def iSeq (K : PySem.W.Frag) (tl : TE) : TI := fun σ H R => tl σ H fun x H1 => ∃ a, x = .ref a ∧ (((∃ xs, SqL K H1 a xs) ∧ R (Itl K a) H1) ∨ ((∃ xs, SqT K H1 a xs) ∧ R (Itt K a) H1))
theorem pi_seq {tl : TE} (hl : PE X e tl) : PI X tg e (iSeq X.K tl) := by
  refine ⟨fun pins s σ H R I h => thn (hl.run pins s σ H _ I h) fun v s1 ⟨x, H1, I1, r1, a, ex, q⟩ => ?_⟩
  subst ex
  cases r1
  have fp : ∀ b ∈ [s1.heap.objs.size], FpOk X pins H1 b := fun b hb => by
    have z : b = s1.heap.objs.size := by simpa using hb
    rw [z]; exact I1.fpOk (Nat.le_refl _) (I1.hok.fresh (Nat.le_refl _))
  rcases q with ⟨⟨xs, hq⟩, q⟩ | ⟨⟨xs, hq⟩, q⟩
  · obtain ⟨its, rv, p, _⟩ := I1.list hq
    exact wpAny_pyIter_list p.isList ⟨_, [s1.heap.objs.size], _, _, H1, rfl, I1.kept (t' := s1.toks) (fun b o z => Heap.get?_push_of_some _ z), turn_list a _, ⟨_, Heap.get?_push_size _ rfl, rfl, rfl⟩, fp, q⟩
  · obtain ⟨its, rv, p, _⟩ := I1.tuple hq
    exact wpAny_pyIter_tuple (show s1.heap.IsTuple a its.toArray from p) ⟨_, [s1.heap.objs.size], _, _, H1, rfl, I1.kept (t' := s1.toks) (fun b o z => Heap.get?_push_of_some _ z), turn_tuple a _, ⟨_, Heap.get?_push_size _ rfl, rfl, rfl⟩, fp, q⟩
theorem walk_list {m : Nb} {L : Hl} {H : Hp} {a : Addr} {vs : List V} {s : Src} (h : ∀ m1 L1 H1, Wk m L H m1 L1 H1 → RepL W m1 L1 H1 → s.ok L1 → ∃ vs, SqL W.K H1 a vs ∧ RepVs W m1 L1 H1 vs s.items) : Walk W m L H (Itl W.K a) s where
  go := fun i d m1 L1 H1 e st rl ok => by
    obtain ⟨vs, h1, h2⟩ := h m1 L1 H1 st rl ok
    obtain ⟨v, h3, h4⟩ := h2.getD e
    refine ⟨⟨vs, v, h1, h3⟩, fun x H2 y => ?_⟩
    obtain ⟨e1, e2⟩ := y
    subst e1
    have := e2 vs h1
    rw [h3] at this
    cases this
    exact ⟨Nx.refl rl, h4⟩
  stop := fun m1 L1 H1 st rl ok => by
    obtain ⟨vs, h1, h2⟩ := h m1 L1 H1 st rl ok
    exact ⟨vs, h1, by rw [h2.length]; exact Nat.le_refl _⟩
theorem walk_tup {m : Nb} {L : Hl} {H : Hp} {a : Addr} {vs : List V} {s : Src} (h : ∀ m1 L1 H1, Wk m L H m1 L1 H1 → RepL W m1 L1 H1 → s.ok L1 → ∃ vs, SqT W.K H1 a vs ∧ RepVs W m1 L1 H1 vs s.items) : Walk W m L H (Itt W.K a) s where
  go := fun i d m1 L1 H1 e st rl ok => by
    obtain ⟨vs, h1, h2⟩ := h m1 L1 H1 st rl ok
    obtain ⟨v, h3, h4⟩ := h2.getD e
    refine ⟨⟨vs, v, h1, h3⟩, fun x H2 y => ?_⟩
    obtain ⟨e1, e2⟩ := y
    subst e1
    have := e2 vs h1
    rw [h3] at this
    cases this
    exact ⟨Nx.refl rl, h4⟩
  stop := fun m1 L1 H1 st rl ok => by
    obtain ⟨vs, h1, h2⟩ := h m1 L1 H1 st rl ok
    exact ⟨vs, h1, by rw [h2.length]; exact Nat.le_refl _⟩
theorem seq_later {m m1 : Nb} {L L1 : Hl} {H H1 : Hp} {v : V} {ds : List D} (st : Wk m L H m1 L1 H1) : RepV W m L H v (.tup ds) → ∃ a vs, v = .ref a ∧ SqT W.K H1 a vs ∧ RepVs W m1 L1 H1 vs ds
  | .tup h r ap => ⟨_, _, rfl, .inl (st.rd h ap), r.wk st⟩
  | .tupK h r => ⟨_, _, rfl, .inr h, r.wk st⟩
def dSeq (t : TD) : TDi := fun ds L Q => t ds L fun x L1 => srcK L1 x fun s => Q s L1
theorem i_seq {t : TD} (h : DE X (wd X) B e t) : DI X (wd X) B tg e (dSeq t) := piI (pi_seq h) fun σ H R ⟨m, L, ds, Qd, S, q, c⟩ => ⟨m, L, ds, _, S, q, fun d L' v m' H' q' st rl r => by
  unfold srcK at q'
  cases r with
  | tup h r ap =>
    refine ⟨_, rfl, .inr ⟨⟨_, .inl h⟩, c _ L' m' H' _ q' st rl (walk_tup (vs := []) fun m1 L1 H1 st1 rl1 _ => ?_)⟩⟩
    exact ⟨_, .inl (st1.rd h ap), r.wk st1⟩
  | tupK h r =>
    refine ⟨_, rfl, .inr ⟨⟨_, .inr h⟩, c _ L' m' H' _ q' st rl (walk_tup (vs := []) fun m1 L1 H1 st1 rl1 _ => ?_)⟩⟩
    exact ⟨_, .inr h, r.wk st1⟩
  | lst h r ap =>
    refine ⟨_, rfl, .inl ⟨⟨_, SqL.of h⟩, c _ L' m' H' _ q' st rl (walk_list (vs := []) fun m1 L1 H1 st1 rl1 _ => ?_)⟩⟩
    exact ⟨_, SqL.of (st1.hk _ _ h ap).1, r.wk st1⟩
  | scr h r ap =>
    refine ⟨_, rfl, .inl ⟨⟨_, .inl (.inr ⟨_, h⟩)⟩, c _ L' m' H' _ q' st rl (walk_list (vs := []) fun m1 L1 H1 st1 rl1 _ => ?_)⟩⟩
    exact ⟨_, .inl (.inr ⟨_, (st1.hk _ _ h ap).1⟩), r.wk st1⟩
  | scrK h r =>
    refine ⟨_, rfl, .inl ⟨⟨_, .inr h⟩, c _ L' m' H' _ q' st rl (walk_list (vs := []) fun m1 L1 H1 st1 rl1 _ => ?_)⟩⟩
    exact ⟨_, .inr h, r.wk st1⟩
  | obj hi =>
    rename_i i
    dsimp only at q'
    split at q'
    · rename_i xs e1
      obtain ⟨vs, h1, h2⟩ := rl.ob _ _ e1
      refine ⟨_, rfl, .inl ⟨⟨_, SqL.of h1⟩, c _ L' m' H' _ q' st rl (walk_list (vs := []) fun m1 L1 H1 st1 rl1 ok => ?_)⟩⟩
      have ok : L1[i]? = some (.lst xs) := ok
      obtain ⟨vs1, g1, g2⟩ := rl1.ob _ _ ok
      rw [st1.hi i hi] at g1
      exact ⟨vs1, SqL.of g1, g2⟩
    · exact q'.elim
  | _ => exact q'.elim⟩

/-! ### ranges -/
abbrev TDr := Ds → Hl → (Int → Int → Hl → Prop) → Prop
def dR1 (tb : TD) : TDr := fun ds L Q => tb ds L fun y L1 => (match y with
    | .int j => Q 0 j L1
    | _ => False)
def dR2 (ta tb : TD) : TDr := fun ds L Q => ta ds L fun x L1 => tb ds L1 fun y L2 => (match x, y with
    | .int i, .int j => Q i j L2
    | _, _ => False)
def dRng (t : TDr) : TDi := fun ds L Q => t ds L fun i j L1 => (smallR i ∧ smallR j) ∧ Q (.fixed (rngD i j)) L1
theorem rngD_get {a b : Int} {i : Nat} {d : D} (h : (rngD a b)[i]? = some d) : i < (b - a).toNat ∧ d = .int (a + (i : Nat)) := by
  unfold rngD at h
  rw [List.getElem?_map] at h
  by_cases hi : i < (b - a).toNat
  · rw [List.getElem?_range hi] at h
    cases h
    exact ⟨hi, rfl⟩
  · rw [List.getElem?_eq_none (by simpa using hi)] at h
    cases h
theorem rngD_len {a b : Int} : (rngD a b).length = (b - a).toNat := by simp [rngD]
theorem walk_rng {m : Nb} {L : Hl} {H : Hp} {a b : Int} : Walk W m L H (Itr a (b - a).toNat) (.fixed (rngD a b)) where
  go := fun i d m1 L1 H1 e st rl _ => by
    obtain ⟨hi, rfl⟩ := rngD_get e
    refine ⟨hi, fun x H2 y => ?_⟩
    obtain ⟨e1, e2⟩ := y
    subst e1 e2
    exact ⟨Nx.refl rl, .int _⟩
  stop := fun m1 L1 H1 st rl _ => by
    show (b - a).toNat ≤ _
    rw [show (Src.fixed (rngD a b)).items = rngD a b from rfl, rngD_len]
    exact Nat.le_refl _
theorem i_rng1 {x : Str} {p : Pos} {t : TD} (G : Good Φ B E k Γ X) (hx : Γ.gl x = true) (hxe : x = Str.ofString "range") (hs : starE e = false) (h : DE X (wd X) B e t) : DI X (wd X) B tg (.Call (.Name x p) [e] [] pos) (dRng (dR1 t)) := by
  subst hxe
  exact piI (pi_range1 (G.gl hx).1 (G.blt _ (by decide +kernel)) (pa_cons h pa_nil (star_of hs)) (star_of hs)) fun σ H R ⟨m, L, ds, Qd, S, q, c⟩ => ⟨m, L, ds, _, S, q, fun d L' v m' H' q' st rl r => by
    cases r with
    | int j =>
      refine ⟨j, rfl, q'.1.2.1, q'.1.2.2, ?_⟩
      have w := walk_rng (W := wd X) (m := m') (L := L') (H := H') (a := 0) (b := j)
      rw [Int.sub_zero] at w
      exact c _ L' m' H' _ q'.2 st rl w
    | _ => exact q'.elim⟩
theorem i_rng2 {x : Str} {p : Pos} {f : Expr} {t u : TD} (G : Good Φ B E k Γ X) (hx : Γ.gl x = true) (hxe : x = Str.ofString "range") (hs : starE e = false) (hs2 : starE f = false) (h : DE X (wd X) B e t) (h2 : DE X (wd X) B f u) : DI X (wd X) B tg (.Call (.Name x p) [e, f] [] pos) (dRng (dR2 t u)) := by
  subst hxe
  exact piI (pi_range2 (G.gl hx).1 (G.blt _ (by decide +kernel)) (pa_cons h (pa_cons h2 pa_nil (star_of hs2)) (star_of hs)) (by rw [star_of hs, star_of hs2]; rfl) (star_of hs2)) fun σ H R ⟨m, L, ds, Qd, S, q, c⟩ =>
    ⟨m, L, ds, _, S, q, fun d L1 v m1 H1 q1 st1 rl1 r1 => ⟨m1, L1, ds, _, S.nx st1 rl1, q1, fun d2 L2 v2 m2 H2 q2 st2 rl2 r2 => by
    cases r1 with
    | int i => cases r2 with
      | int j => exact ⟨i, j, rfl, ⟨q2.1.1.1, q2.1.1.2, q2.1.2.1, q2.1.2.2⟩, c _ L2 m2 H2 _ q2.2 (st1.trans st2) rl2 walk_rng⟩
      | _ => exact q2.elim
    | _ => exact q2.elim⟩⟩

/-! ### enumerate, zip -/
theorem enumD_len : ∀ (n : Nat) (xs : List D), (enumD n xs).length = xs.length
  | _, [] => rfl
  | n, x :: xs => congrArg (· + 1) (enumD_len (n + 1) xs)
theorem enumD_get : ∀ {n : Nat} {xs : List D} {i : Nat} {d : D}, (enumD n xs)[i]? = some d → ∃ x, xs[i]? = some x ∧ d = .tup [.int ((n + i : Nat) : Int), x]
  | _, [], _, _, h => by simp [enumD] at h
  | n, x :: xs, 0, d, h => by
    simp [enumD] at h
    exact ⟨x, rfl, by rw [← h]; rfl⟩
  | n, x :: xs, i + 1, d, h => by
    obtain ⟨y, h1, h2⟩ := enumD_get (n := n + 1) (xs := xs) (i := i) (d := d) (by simpa [enumD] using h)
    exact ⟨y, by simpa using h1, by rw [h2, show n + 1 + i = n + (i + 1) by omega]⟩
theorem zipD_get : ∀ {xs ys : List D} {i : Nat} {d : D}, (zipD xs ys)[i]? = some d → ∃ x y, xs[i]? = some x ∧ ys[i]? = some y ∧ d = .tup [x, y]
  | [], _, _, _, h => by simp [zipD] at h
  | _ :: _, [], _, _, h => by simp [zipD] at h
  | x :: xs, y :: ys, 0, d, h => by
    simp [zipD] at h
    exact ⟨x, y, rfl, rfl, h.symm⟩
  | x :: xs, y :: ys, i + 1, d, h => by
    obtain ⟨x', y', h1, h2, h3⟩ := zipD_get (xs := xs) (ys := ys) (i := i) (d := d) (by simpa [zipD] using h)
    exact ⟨x', y', by simpa using h1, by simpa using h2, h3⟩
theorem zipD_len : ∀ (xs ys : List D), (zipD xs ys).length = min xs.length ys.length
  | [], ys => by simp [zipD]
  | x :: xs, [] => by simp [zipD]
  | x :: xs, y :: ys => by simp [zipD, zipD_len xs ys]
/-- lists that stand still, walked in pairs -/
theorem rep_pair {m : Nb} {L : Hl} {H : Hp} {T : Addr} {v u : V} {x y : D} (rl : RepL W m L H) (hT : H T = none) (r1 : RepV W m L H v x) (r2 : RepV W m L H u y) : Nx W m L H (upd H T (.tup [v, u])) ∧ RepV W m L (upd H T (.tup [v, u])) (.ref T) (.tup [x, y]) :=
  ⟨Nx.laid rl hT, rep_tup rl hT (.cons r1 (.cons r2 .nil))⟩
theorem walk_enum {m : Nb} {L : Hl} {H : Hp} {a : Addr} {xs : List D} (h : ∀ m1 L1 H1, Wk m L H m1 L1 H1 → RepL W m1 L1 H1 → ∃ vs, SqL W.K H1 a vs ∧ RepVs W m1 L1 H1 vs xs) : Walk W m L H (Ite W.K a) (.fixed (enumD 0 xs)) where
  go := fun i d m1 L1 H1 e st rl ok => by
    obtain ⟨vs, h1, h2⟩ := h m1 L1 H1 st rl
    obtain ⟨x, hx, rfl⟩ := enumD_get e
    obtain ⟨v, h3, h4⟩ := h2.getD hx
    refine ⟨⟨vs, v, h1, h3⟩, fun w H2 y => ?_⟩
    obtain ⟨T, v', e1, hT, e2, e3⟩ := y
    subst e1 e2
    have := e3 vs h1
    rw [h3] at this
    cases this
    rw [Nat.zero_add]
    exact rep_pair rl hT (.int _) h4
  stop := fun m1 L1 H1 st rl ok => by
    obtain ⟨vs, h1, h2⟩ := h m1 L1 H1 st rl
    exact ⟨vs, h1, by rw [show (Src.fixed (enumD 0 xs)).items = enumD 0 xs from rfl, enumD_len, h2.length]; exact Nat.le_refl _⟩
theorem walk_zip {m : Nb} {L : Hl} {H : Hp} {a b : Addr} {xs ys : List D} (h : ∀ m1 L1 H1, Wk m L H m1 L1 H1 → RepL W m1 L1 H1 → ∃ vs us, SqL W.K H1 a vs ∧ SqL W.K H1 b us ∧ RepVs W m1 L1 H1 vs xs ∧ RepVs W m1 L1 H1 us ys) : Walk W m L H (Itz W.K a b) (.fixed (zipD xs ys)) where
  go := fun i d m1 L1 H1 e st rl ok => by
    obtain ⟨vs, us, h1, h2, r1, r2⟩ := h m1 L1 H1 st rl
    obtain ⟨x, y, hx, hy, rfl⟩ := zipD_get e
    obtain ⟨v, h3, h4⟩ := r1.getD hx
    obtain ⟨u, h5, h6⟩ := r2.getD hy
    refine ⟨⟨vs, us, v, u, h1, h2, h3, h5⟩, fun w H2 y => ?_⟩
    obtain ⟨T, v', u', e1, hT, e2, e3, e4⟩ := y
    subst e1 e2
    have g3 := e3 vs h1
    have g4 := e4 us h2
    rw [h3] at g3
    rw [h5] at g4
    cases g3
    cases g4
    exact rep_pair rl hT h4 h6
  stop := fun m1 L1 H1 st rl ok => by
    obtain ⟨vs, us, h1, h2, r1, r2⟩ := h m1 L1 H1 st rl
    refine ⟨vs, us, h1, h2, ?_⟩
    have e1 := r1.length
    have e2 := r2.length
    rw [show (Src.fixed (zipD xs ys)).items = zipD xs ys from rfl, zipD_len]
    omega
theorem walk_zipT {m : Nb} {L : Hl} {H : Hp} {a b : Addr} {xs ys : List D} (h : ∀ m1 L1 H1, Wk m L H m1 L1 H1 → RepL W m1 L1 H1 → ∃ vs us, SqT W.K H1 a vs ∧ SqT W.K H1 b us ∧ RepVs W m1 L1 H1 vs xs ∧ RepVs W m1 L1 H1 us ys) : Walk W m L H (RZ.ItzT W.K a b) (.fixed (zipD xs ys)) where
  go := fun i d m1 L1 H1 e st rl ok => by
    obtain ⟨vs, us, h1, h2, r1, r2⟩ := h m1 L1 H1 st rl
    obtain ⟨x, y, hx, hy, rfl⟩ := zipD_get e
    obtain ⟨v, h3, h4⟩ := r1.getD hx
    obtain ⟨u, h5, h6⟩ := r2.getD hy
    refine ⟨⟨vs, us, v, u, h1, h2, h3, h5⟩, fun w H2 y => ?_⟩
    obtain ⟨T, v', u', e1, hT, e2, e3, e4⟩ := y
    subst e1 e2
    have g3 := e3 vs h1
    have g4 := e4 us h2
    rw [h3] at g3
    rw [h5] at g4
    cases g3
    cases g4
    exact rep_pair rl hT h4 h6
  stop := fun m1 L1 H1 st rl ok => by
    obtain ⟨vs, us, h1, h2, r1, r2⟩ := h m1 L1 H1 st rl
    refine ⟨vs, us, h1, h2, ?_⟩
    have e1 := r1.length
    have e2 := r2.length
    rw [show (Src.fixed (zipD xs ys)).items = zipD xs ys from rfl, zipD_len]
    omega
def dZip (t u : TD) : TDi := fun ds L Q => t ds L fun x L1 => u ds L1 fun y L2 => (match x, y with
    | .tup xs, .tup ys => Q (.fixed (zipD xs ys)) L2
    | .lst xs, .lst ys => Q (.fixed (zipD xs ys)) L2
    | _, _ => False)
theorem lst_later {m m1 : Nb} {L L1 : Hl} {H H1 : Hp} {v : V} {ds : List D} (st : Wk m L H m1 L1 H1) : RepV W m L H v (.lst ds) → ∃ a vs, v = .ref a ∧ SqL W.K H1 a vs ∧ RepVs W m1 L1 H1 vs ds
  | .lst h r ap => ⟨_, _, rfl, SqL.of (st.hk _ _ h ap).1, r.wk st⟩
theorem ref_of_tup {m : Nb} {L : Hl} {H : Hp} {v : V} {ds : List D} : RepV W m L H v (.tup ds) → ∃ a, v = .ref a
  | .tup _ _ _ => ⟨_, rfl⟩
  | .tupK _ _ => ⟨_, rfl⟩
theorem ref_of_lst {m : Nb} {L : Hl} {H : Hp} {v : V} {ds : List D} : RepV W m L H v (.lst ds) → ∃ a, v = .ref a
  | .lst _ _ _ => ⟨_, rfl⟩
theorem i_zip {x : Str} {p tp : Pos} {f : Expr} {t u : TD} {el : List Expr} {kk : Nat} (G : Good Φ B E k Γ X) (hx : Γ.gl x = true) (hxe : x = Str.ofString "zip") (hs : starE e = false) (hs2 : starE f = false) (h : DE X (wd X) B e t) (h2 : DE X (wd X) B f u) :
    DI X (wd X) B (.Tuple el kk tp) (.Call (.Name x p) [e, f] [] pos) (dZip t u) := by
  subst hxe
  refine piI (RZ.pi_zipA (G.gl hx).1 (G.blt _ (by decide +kernel)) (pa_cons h (pa_cons h2 pa_nil (star_of hs2)) (star_of hs)) (star_of hs) (plain_args (by simp [hs2]))) fun σ H R ⟨m, L, ds, Qd, S, q, c⟩ =>
    ⟨m, L, ds, _, S, q, fun d L1 v m1 H1 q1 st1 rl1 r1 => ⟨m1, L1, ds, _, S.nx st1 rl1, q1, fun d2 L2 v2 m2 H2 q2 st2 rl2 r2 => ?_⟩⟩
  have r1' := r1.step st2
  split at q2
  · obtain ⟨a, rfl⟩ := ref_of_tup r1'
    obtain ⟨b, rfl⟩ := ref_of_tup r2
    obtain ⟨a', vs, ea, g1, g2⟩ := seq_later Wk.refl r1'
    cases ea
    obtain ⟨b', us, eb, g3, g4⟩ := seq_later Wk.refl r2
    cases eb
    refine ⟨a, b, vs, us, rfl, .inr ⟨g1, g3, c _ L2 m2 H2 _ q2 (st1.trans st2) rl2 (walk_zipT fun m3 L3 H3 st3 rl3 => ?_)⟩⟩
    obtain ⟨a', vs', ea, f1, f2⟩ := seq_later st3 r1'
    cases ea
    obtain ⟨b', us', eb, f3, f4⟩ := seq_later st3 r2
    cases eb
    exact ⟨vs', us', f1, f3, f2, f4⟩
  · obtain ⟨a, rfl⟩ := ref_of_lst r1'
    obtain ⟨b, rfl⟩ := ref_of_lst r2
    obtain ⟨a', vs, ea, g1, g2⟩ := lst_later Wk.refl r1'
    cases ea
    obtain ⟨b', us, eb, g3, g4⟩ := lst_later Wk.refl r2
    cases eb
    refine ⟨a, b, vs, us, rfl, .inl ⟨g1, g3, c _ L2 m2 H2 _ q2 (st1.trans st2) rl2 (walk_zip fun m3 L3 H3 st3 rl3 => ?_)⟩⟩
    obtain ⟨a', vs', ea, f1, f2⟩ := lst_later st3 r1'
    cases ea
    obtain ⟨b', us', eb, f3, f4⟩ := lst_later st3 r2
    cases eb
    exact ⟨vs', us', f1, f3, f2, f4⟩
  · exact q2.elim
end
end Nr

/-! Targets; comprehensions. -/
namespace Nr
open PySem PySem.Spec PyProof.Rows L2
/-- σ' is σ but for the slots sl -/
def ButSl (sl : List Nat) (σ σ' : _root_.L2.St) : Prop := (∀ j, j ∉ sl → σ'[j]? = σ[j]?) ∧ σ'.length = σ.length
def lG (W : Wd) (B : Option En) (sl : List Nat) (t : D → Ds → (Ds → Prop) → Prop) : TG := fun v σ H Q => ∃ (m : Nb) (L : Hl) (ds : Ds) (d : D) (P : Ds → Prop), Sit W B m L ds σ H ∧ RepV W m L H v d ∧ t d ds P ∧
  ∀ ds' σ', P ds' → Sit W B m L ds' σ' H → ButSl sl σ σ' → Q σ' H
def lGs (W : Wd) (B : Option En) (sl : List Nat) (t : List D → Ds → (Ds → Prop) → Prop) : TGs := fun vs σ H Q => ∃ (m : Nb) (L : Hl) (ds : Ds) (xs : List D) (P : Ds → Prop), Sit W B m L ds σ H ∧ RepVs W m L H vs xs ∧ t xs ds P ∧
  ∀ ds' σ', P ds' → Sit W B m L ds' σ' H → ButSl sl σ σ' → Q σ' H
section
variable {Φ : Phi} {B : Option En} {E : XS} {k : Nat} {Γ : Gm} {X : Cx} {W : Wd} {e tg : Expr} {es : List Expr} {pos : Pos}
theorem pgI {t t' : TG} (h : PG X tg t) (c : ∀ v σ H Q, t' v σ H Q → t v σ H Q) : PG X tg t' := ⟨fun pins s σ H v u Q I r q => h.run pins s σ H v u Q I r (c v σ H Q q)⟩
theorem pgsI {t t' : TGs} (h : PGs X es t) (c : ∀ v σ H Q, t' v σ H Q → t v σ H Q) : PGs X es t' := ⟨fun pins s σ H v u Q I r q => h.run pins s σ H v u Q I r (c v σ H Q q)⟩
theorem Good.loc (G : Good Φ B E k Γ X) {i : Nat} {x : Str} (h : Γ.loc i x = true) : X.N[i]? = some x ∧ L2.Loc X.env.scope x ∧ (X.fn x = true ∨ X.env.scope.names.lookup x = some .local) := by
  obtain ⟨h1, h3⟩ := b2 h
  obtain ⟨h1, h2⟩ := b2 h1
  refine ⟨by rw [G.N]; exact of_decide_eq_true h1, ?_, G.fn x h3 h2⟩
  unfold L2.Loc
  rw [G.sc]
  exact isLoc_of h2
theorem Good.ndX (G : Good Φ B E k Γ X) : X.N.Nodup := by rw [G.N]; exact G.nd
theorem assignEach_plain {env : Env} : ∀ (gs : IGs) (es : List Expr), chkGs Γ gs es = true → (assignEach es env).length = es.length ∧ (assignEach es env).findIdx? (·.1) = none ∧ ∀ e ∈ es, starE e = false
  | .nil, es, h => by
    cases es with
    | nil => exact ⟨rfl, rfl, fun e h => nomatch h⟩
    | cons e es => simp [chkGs] at h
  | .cons g gs, es, h => by
    cases es with
    | nil => simp [chkGs] at h
    | cons e es =>
      simp only [chkGs, Bool.and_eq_true] at h
      obtain ⟨i1, i2, i3⟩ := assignEach_plain (env := env) gs es h.2
      have he : starE e = false := by
        cases g <;> cases e <;> first | rfl | (simp [chkG] at h; done)
      have ha : assignEach (e :: es) env = (false, assign e env) :: assignEach es env := by cases e <;> first | rfl | cases he
      rw [ha]
      refine ⟨by simp [i1], ?_, fun z hz => ?_⟩
      · rw [List.findIdx?_cons, i2]
        rfl
      · rcases List.mem_cons.mp hz with rfl | hz
        · exact he
        · exact i3 z hz
mutual
theorem semG_ex : ∀ (g : IG) (d : D) (ds : Ds) (K : Ds → Prop), semG g d ds K → ∃ ds1, K ds1
  | .n i, d, ds, K, h => ⟨_, by simpa [semG] using h⟩
  | .t gs, d, ds, K, h => by
    unfold semG at h
    split at h
    · exact semGs_ex gs _ ds K h
    · exact h.elim
theorem semGs_ex : ∀ (gs : IGs) (xs : List D) (ds : Ds) (K : Ds → Prop), semGs gs xs ds K → ∃ ds1, K ds1
  | .nil, [], ds, K, h => ⟨ds, by simpa [semGs] using h⟩
  | .nil, _ :: _, ds, K, h => by simp [semGs] at h
  | .cons g gs, [], ds, K, h => by simp [semGs] at h
  | .cons g gs, x :: xs, ds, K, h => by
    obtain ⟨ds1, h1⟩ := semG_ex g x ds _ (by simpa only [semGs] using h)
    exact semGs_ex gs xs ds1 K h1
end
theorem gs_len : ∀ (gs : IGs) (es : List Expr) (xs : List D) (ds : Ds) (P : Ds → Prop), chkGs Γ gs es = true → semGs gs xs ds P → xs.length = es.length
  | .nil, [], [], ds, P, h, q => rfl
  | .nil, [], _ :: _, ds, P, h, q => by simp [semGs] at q
  | .nil, _ :: _, xs, ds, P, h, q => by simp [chkGs] at h
  | .cons g gs, [], xs, ds, P, h, q => by simp [chkGs] at h
  | .cons g gs, e :: es, [], ds, P, h, q => by simp [semGs] at q
  | .cons g gs, e :: es, x :: xs, ds, P, h, q => by
    simp only [chkGs, Bool.and_eq_true] at h
    obtain ⟨ds1, h1⟩ := semG_ex g x ds _ (by simpa only [semGs] using q)
    exact congrArg (· + 1) (gs_len gs es xs ds1 P h.2 h1)
mutual
theorem g_ok (G : Good Φ B E k Γ X) : ∀ (g : IG) (tg : Expr), chkG Γ g tg = true → PG X tg (lG (wd X) B g.slots (semG g))
  | .n i, tg, h => by
    cases tg <;> first | (simp [chkG] at h; done) | skip
    rename_i x p
    have h : Γ.loc i x = true := by simpa [chkG] using h
    obtain ⟨h1, h2, h3⟩ := G.loc h
    refine pgI (pg_name (i := i) G.ndX h1 h2 h3) fun v σ H Q ⟨m, L, ds, d, P, S, r, q, c⟩ => ?_
    exact c _ _ (by simpa [semG] using q) (S.set r) ⟨fun j hj => List.getElem?_set_ne (fun e => hj (by simp [IG.slots, e])), by simp⟩
  | .t gs, tg, h => by
    cases tg <;> first | (simp [chkG] at h; done) | skip
    rename_i es kk p
    have h : chkGs Γ gs es = true := by simpa [chkG] using h
    obtain ⟨i1, i2, _⟩ := assignEach_plain (env := X.env) gs es h
    refine pgI (pg_tup (n := es.length) G.calm (gs_ok G gs es h) i1 i2) fun v σ H Q ⟨m, L, ds, d, P, S, r, q, c⟩ => ?_
    unfold semG at q
    split at q
    · rename_i xs
      obtain ⟨a, vs, rfl, h1, h2⟩ := seq_later Wk.refl r
      have hl : xs.length = es.length := gs_len gs es xs ds P h q
      exact ⟨a, vs, rfl, h1, by rw [h2.length, hl], m, L, ds, xs, P, S, h2, q, c⟩
    · exact q.elim
theorem gs_ok (G : Good Φ B E k Γ X) : ∀ (gs : IGs) (es : List Expr), chkGs Γ gs es = true → PGs X es (lGs (wd X) B gs.slots (semGs gs))
  | .nil, es, h => by
    cases es with
    | nil =>
      refine pgsI pgs_nil fun v σ H Q ⟨m, L, ds, xs, P, S, r, q, c⟩ => ?_
      cases r with
      | nil => exact ⟨rfl, c ds σ (by simpa [semGs] using q) S ⟨fun _ _ => rfl, rfl⟩⟩
      | cons r t => simp [semGs] at q
    | cons e es => simp [chkGs] at h
  | .cons g gs, es, h => by
    cases es with
    | nil => simp [chkGs] at h
    | cons e es =>
      have hh := h
      simp only [chkGs, Bool.and_eq_true] at h
      have he : starE e = false := (assignEach_plain (env := X.env) (.cons g gs) (e :: es) hh).2.2 e List.mem_cons_self
      have ha : (assignEach (e :: es) X.env).map (·.2) = assign e X.env :: (assignEach es X.env).map (·.2) := by cases e <;> first | rfl | cases he
      refine pgsI (pgs_cons (g_ok G g e h.1) (gs_ok G gs es h.2) ha) fun v σ H Q ⟨m, L, ds, xs, P, S, r, q, c⟩ => ?_
      cases r with
      | nil => simp [semGs] at q
      | cons r t =>
        refine ⟨_, _, rfl, m, L, ds, _, _, S, r, (by simpa [semGs] using q), fun ds1 σ1 q1 S1 b1 => ⟨m, L, ds1, _, P, S1, t, q1, fun ds2 σ2 q2 S2 b2 => c ds2 σ2 q2 S2 ⟨fun j hj => ?_, b2.2.trans b1.2⟩⟩⟩
        have hj' : j ∉ g.slots ++ gs.slots := by simpa [IGs.slots] using hj
        rw [List.mem_append, not_or] at hj'
        rw [b2.1 j hj'.2, b1.1 j hj'.1]
end
end
end Nr

/-! List comprehensions. -/
namespace Nr
open PySem PySem.Spec PyProof.Rows L2
abbrev TDt := Ds → Hl → (Bool → Hl → Prop) → Prop
def lIf (W : Wd) (B : Option En) (t : TDt) : TT := fun σ H Q => ∃ (m : Nb) (L : Hl) (ds : Ds) (Qd : Bool → Hl → Prop), Sit W B m L ds σ H ∧ t ds L Qd ∧
  ∀ b L' m' H', Qd b L' → Step m L H m' L' H' → RepL W m' L' H' → Q b H'
section
variable {W : Wd} {m m' m1 m2 : Nb} {L L' L1 L2 : Hl} {H H' H1 H2 : Hp} {p : Addr} {xs : List D} {B : Option En} {ds : Ds} {σ : _root_.L2.St}
/-! ### slots wiped -/
theorem wipeD_length (ds : Ds) : ∀ vs : List Nat, (wipeD ds vs).length = ds.length
  | [] => rfl
  | v :: vs => by unfold wipeD; rw [List.length_set, wipeD_length ds vs]
theorem wipeD_some {i : Nat} {d : D} : ∀ {vs : List Nat}, (wipeD ds vs)[i]? = some (some d) → ds[i]? = some (some d) ∧ i ∉ vs
  | [], h => ⟨h, fun z => nomatch z⟩
  | v :: vs, h => by
    unfold wipeD at h
    by_cases e : v = i
    · subst e
      rw [List.getElem?_set] at h
      simp at h
    · rw [List.getElem?_set_ne e] at h
      obtain ⟨h1, h2⟩ := wipeD_some h
      exact ⟨h1, fun z => (List.mem_cons.mp z).elim (fun z => e z.symm) h2⟩
theorem wipe_in {i : Nat} : ∀ {vs : List Nat}, i ∈ vs → (wipe σ vs)[i]? = if i < σ.length then some none else none
  | [], h => nomatch h
  | v :: vs, h => by
    unfold wipe
    by_cases e : v = i
    · subst e
      rw [List.getElem?_set, if_pos rfl, wipe_length]
    · rw [List.getElem?_set_ne e]
      exact wipe_in ((List.mem_cons.mp h).elim (fun z => absurd z.symm e) id)
theorem wipe_but {sl vs : List Nat} {σ σ' : _root_.L2.St} (hs : ∀ i ∈ sl, i ∈ vs) (b : ButSl sl (wipe σ vs) σ') : wipe σ' vs = wipe σ vs := by
  refine List.ext_getElem? fun i => ?_
  have hl : σ'.length = σ.length := b.2.trans (wipe_length _ _)
  by_cases hi : i ∈ vs
  · rw [wipe_in hi, wipe_in hi, hl]
  · rw [wipe_out hi, b.1 i fun z => hi (hs i z)]
theorem Sit.wipe (S : Sit W B m L ds σ H) (k : Wk m L H m' L' H') (rl : RepL W m' L' H') (vs : List Nat) : Sit W none m' L' (wipeD ds vs) (wipe σ vs) H' :=
  ⟨rl, by rw [wipeD_length, wipe_length]; exact S.ln, fun i d e => by
    obtain ⟨e1, e2⟩ := wipeD_some e
    obtain ⟨v, h, r⟩ := S.rs i d e1
    exact ⟨v, by rw [wipe_out e2]; exact h, r.wk k⟩, fun _ e => nomatch e⟩
/-! ### the list that is made -/
theorem NewAt.go (n : NewAt W m L H m1 L1 H1 p xs) (st : Step m1 L1 H1 m2 L2 H2) (rl : RepL W m2 L2 H2) : NewAt W m L H m2 L2 H2 p xs := by
  obtain ⟨vs, h1, h2⟩ := n.at_
  exact ⟨n.r0, n.st.trans st, rl, n.fr, st.apn (some_ne h1) n.nm, st.rs.1 _ n.nr, vs, st.keep _ _ h1 n.nm, h2.step st⟩
theorem NewAt.pre {m0 : Nb} {L0 : Hl} {H0 : Hp} (n : NewAt W m L H m1 L1 H1 p xs) (r0 : RepL W m0 L0 H0) (st : Step m0 L0 H0 m L H) : NewAt W m0 L0 H0 m1 L1 H1 p xs :=
  ⟨r0, st.trans n.st, n.rl, st.there _ n.fr, n.nm, n.nr, n.at_⟩
theorem NewAt.app {y : D} {v : V} {vs : List V} (n : NewAt W m L H m1 L1 H1 p xs) (h1 : H1 p = some (.lst vs)) (h2 : RepVs W m1 L1 H1 vs xs) (r : RepV W m1 L1 H1 v y) : NewAt W m L H m1 L1 (upd H1 p (.lst (vs ++ [v]))) p (xs ++ [y]) :=
  ⟨n.r0, n.st.updR n.fr, n.rl.updR n.nr, n.fr, n.nm, n.nr, _, upd_same, (h2.append (.one r)).wk (Wk.updR n.nr)⟩
/-! ### the loop -/
theorem lc_of {ti : TDi} {g : IG} {tif : TDt} {te : TD} {own : List Nat} {Q : VK} (hs : ∀ i ∈ g.slots, i ∈ own)
    (h : lF W B (fun ds L Q => ti ds L fun s L1 => lcR s (fun x L2 k => semG g x (wipeD ds own) fun ds2 => tif ds2 L2 fun b L3 => if b = true then te ds2 L3 fun y L4 => k (some y) L4 else k none L3) Q s.items [] L1) σ H Q) :
    tLc (lI W B ti) (lG W none g.slots (semG g)) (lIf W none tif) (lE W none te) own σ H Q := by
  obtain ⟨m, L, ds, Qd, S, q, c⟩ := h
  refine ⟨m, L, ds, _, S, q, fun s L1 m1 H1 J q1 st1 rl1 wk D hD => ?_⟩
  refine ⟨fun i n H' => ∃ m' L' acc, n = s.items.length - i ∧ i ≤ s.items.length ∧ NewAt W m1 L1 H1 m' L' H' D acc ∧ lcR s _ Qd (s.items.drop i) acc L', ⟨_, m1.res D, L1, [], rfl, Nat.zero_le _, newAt_upd rl1 Step.refl rl1 hD .nil, by rw [List.drop_zero]; exact q1⟩, ?_⟩
  rintro i n H' ⟨m', L', acc, rfl, hi, n, q⟩
  by_cases hlt : i < s.items.length
  · have e : s.items.drop i = s.items[i] :: s.items.drop (i + 1) := List.drop_eq_getElem_cons hlt
    rw [e] at q
    have hx : s.items[i]? = some s.items[i] := by simp [hlt]
    obtain ⟨ok, q⟩ := q
    obtain ⟨g1, g2⟩ := wk.go i _ m' L' H' hx n.st.wk n.rl ok
    refine .inr ⟨g1, fun H2 => ∃ m' L' acc, NewAt W m1 L1 H1 m' L' H2 D acc ∧ lcR s _ Qd (s.items.drop (i + 1)) acc L', fun H2 ⟨m2, L2, acc2, n2, q2⟩ => ⟨_, ?_, m2, L2, acc2, rfl, hlt, n2, q2⟩, fun x H2 y => ?_⟩
    · omega
    obtain ⟨nx, r⟩ := g2 x H2 y
    have n2 := n.go nx.st nx.rl
    have S2 := (S.nx st1 rl1).wipe n2.st.wk n2.rl own
    refine ⟨m', L', _, _, _, S2, r, q, fun ds' σ' q' S3 b => ⟨wipe_but hs b, m', L', ds', _, S3, q', fun bb L3 m3 H3 q3 st3 rl3 => ?_⟩⟩
    have n3 := n2.go st3 rl3
    cases bb with
    | false => exact ⟨m3, L3, acc, n3, by simpa using q3⟩
    | true =>
      refine ⟨m3, L3, ds', _, S3.nx st3 rl3, (if_pos rfl ▸ q3 : _), fun y L4 v m4 H4 q4 st4 rl4 rv => ?_⟩
      have n4 := n3.go st4 rl4
      obtain ⟨vs4, h1, h2⟩ := n4.at_
      exact ⟨vs4, h1, by rw [h2.length]; exact q4.1, m4, L4, acc ++ [y], n4.app h1 h2 rv, q4.2⟩
  · have e : i = s.items.length := by omega
    subst e
    rw [List.drop_length] at q
    exact .inl ⟨wk.stop m' L' H' n.st.wk n.rl q.1, c acc L' m' H' D q.2 (n.pre S.rl st1)⟩
theorem lc2_of {ti ti1 : TDi} {g g1 : IG} {tif tif1 : TDt} {te : TD} {own own1 : List Nat} {Q : VK} (hs : ∀ i ∈ g.slots, i ∈ own) (hs1 : ∀ i ∈ g1.slots, i ∈ own1)
    (h : lF W B (fun ds L Q => ti ds L fun s L1 => lcR2 s (fun x acc L2 k => semG g x (wipeD ds own) fun ds2 => tif ds2 L2 fun b L3 => if b = true then
      ti1 ds2 L3 fun s1 L4 => lcR s1 (fun x1 L5 k1 => semG g1 x1 (wipeD ds2 own1) fun ds3 => tif1 ds3 L5 fun b1 L6 => if b1 = true then te ds3 L6 fun y L7 => k1 (some y) L7 else k1 none L6) k s1.items acc L4 else k acc L3) Q s.items [] L1) σ H Q) :
    tLc2 (lI W B ti) (lG W none g.slots (semG g)) (lIf W none tif) (lI W none ti1) (lG W none g1.slots (semG g1)) (lIf W none tif1) (lE W none te) own own1 σ H Q := by
  obtain ⟨m, L, ds, Qd, S, q, c⟩ := h
  refine ⟨m, L, ds, _, S, q, fun s L1 m1 H1 J q1 st1 rl1 wk D hD => ?_⟩
  refine ⟨fun i n H' => ∃ m' L' acc, n = s.items.length - i ∧ i ≤ s.items.length ∧ NewAt W m1 L1 H1 m' L' H' D acc ∧ lcR2 s _ Qd (s.items.drop i) acc L', ⟨_, m1.res D, L1, [], rfl, Nat.zero_le _, newAt_upd rl1 Step.refl rl1 hD .nil, by rw [List.drop_zero]; exact q1⟩, ?_⟩
  rintro i n H' ⟨m', L', acc, rfl, hi, n, q⟩
  by_cases hlt : i < s.items.length
  · have e : s.items.drop i = s.items[i] :: s.items.drop (i + 1) := List.drop_eq_getElem_cons hlt
    rw [e] at q
    have hx : s.items[i]? = some s.items[i] := by simp [hlt]
    obtain ⟨ok, q⟩ := q
    obtain ⟨g1', g2⟩ := wk.go i _ m' L' H' hx n.st.wk n.rl ok
    refine .inr ⟨g1', fun H2 => ∃ m' L' acc, NewAt W m1 L1 H1 m' L' H2 D acc ∧ lcR2 s _ Qd (s.items.drop (i + 1)) acc L', fun H2 ⟨m2, L2, acc2, n2, q2⟩ => ⟨_, ?_, m2, L2, acc2, rfl, hlt, n2, q2⟩, fun x H2 y => ?_⟩
    · omega
    obtain ⟨nx, r⟩ := g2 x H2 y
    have n2 := n.go nx.st nx.rl
    have S2 := (S.nx st1 rl1).wipe n2.st.wk n2.rl own
    refine ⟨m', L', _, _, _, S2, r, q, fun ds' σ' q' S3 b => ⟨wipe_but hs b, m', L', ds', _, S3, q', fun bb L3 m3 H3 q3 st3 rl3 => ?_⟩⟩
    have n3 := n2.go st3 rl3
    cases bb with
    | false => exact ⟨m3, L3, acc, n3, by simpa using q3⟩
    | true =>
      have S4 := S3.nx st3 rl3
      refine ⟨m3, L3, ds', _, S4, (if_pos rfl ▸ q3 : _), fun s1 L4 m4 H4 J1 q4 st4 rl4 wk1 => ?_⟩
      have n4 := n3.go st4 rl4
      have S5 := S4.nx st4 rl4
      refine ⟨fun j n H' => ∃ m' L' acc, n = s1.items.length - j ∧ j ≤ s1.items.length ∧ Wk m4 L4 H4 m' L' H' ∧ NewAt W m1 L1 H1 m' L' H' D acc ∧ lcR s1 _ _ (s1.items.drop j) acc L', ⟨_, m4, L4, acc, rfl, Nat.zero_le _, Wk.refl, n4, by rw [List.drop_zero]; exact q4⟩, ?_⟩
      rintro j n H' ⟨m5, L5, acc5, rfl, hj, w5, n5, q5⟩
      by_cases hlt1 : j < s1.items.length
      · have e1 : s1.items.drop j = s1.items[j] :: s1.items.drop (j + 1) := List.drop_eq_getElem_cons hlt1
        rw [e1] at q5
        have hx1 : s1.items[j]? = some s1.items[j] := by simp [hlt1]
        obtain ⟨ok1, q5⟩ := q5
        obtain ⟨f1, f2⟩ := wk1.go j _ m5 L5 H' hx1 w5 n5.rl ok1
        refine .inr ⟨f1, fun H2 => ∃ m' L' acc, Wk m4 L4 H4 m' L' H2 ∧ NewAt W m1 L1 H1 m' L' H2 D acc ∧ lcR s1 _ _ (s1.items.drop (j + 1)) acc L', fun H2 ⟨m2, L2, acc2, w2, n2, q2⟩ => ⟨_, ?_, m2, L2, acc2, rfl, hlt1, w2, n2, q2⟩, fun x H2 y => ?_⟩
        · omega
        obtain ⟨nx1, r1⟩ := f2 x H2 y
        have n6 := n5.go nx1.st nx1.rl
        have w6 := w5.trans nx1.st.wk
        have S6 := S5.wipe w6 nx1.rl own1
        refine ⟨m5, L5, _, _, _, S6, r1, q5, fun ds7 σ7 q7 S7 b7 => ⟨wipe_but hs1 b7, m5, L5, ds7, _, S7, q7, fun bb L8 m8 H8 q8 st8 rl8 => ?_⟩⟩
        have n8 := n6.go st8 rl8
        have w8 := w6.trans st8.wk
        cases bb with
        | false => exact ⟨m8, L8, acc5, w8, n8, by simpa using q8⟩
        | true =>
          refine ⟨m8, L8, ds7, _, S7.nx st8 rl8, (if_pos rfl ▸ q8 : _), fun y L9 v m9 H9 q9 st9 rl9 rv => ?_⟩
          have n9 := n8.go st9 rl9
          obtain ⟨vs9, h1, h2⟩ := n9.at_
          exact ⟨vs9, h1, by rw [h2.length]; exact q9.1, m9, L9, acc5 ++ [y], (w8.trans st9.wk).trans (Wk.updR n9.nr), n9.app h1 h2 rv, q9.2⟩
      · have e1 : j = s1.items.length := by omega
        subst e1
        rw [List.drop_length] at q5
        exact .inl ⟨wk1.stop m5 L5 H' w5 n5.rl q5.1, m5, L5, acc5, n5, q5.2⟩
  · have e : i = s.items.length := by omega
    subst e
    rw [List.drop_length] at q
    exact .inl ⟨wk.stop m' L' H' n.st.wk n.rl q.1, c acc L' m' H' D q.2 (n.pre S.rl st1)⟩
end
end Nr

/-! New lists, methods, membership: the judgements. -/
namespace Nr
open PySem PySem.Spec PyProof.Rows L2
abbrev NoX : XS := fun _ _ _ => False
section
variable {Φ : Phi} {B : Option En} {E : XS} {k : Nat} {Γ : Gm} {X : Cx} {W : Wd} {e tg it elt : Expr} {es : List Expr} {pos : Pos} {scope : Scope}
theorem Good.blk (G : Good Φ B E k Γ X) (s : Shared) (H : Hp) (C : Addr) (cl : List (Str × Addr)) (fp : List Addr) : Good Φ none NoX k (Γ.blk scope) (X.blk s H scope (compEnvC scope cl C X.env) fp) where
  N := G.N
  nd := G.nd
  sc := by show relabel scope X.env = relS scope Γ.sc; rw [← G.sc]; rfl
  fn := fun x h1 h2 => by
    have h1 : isLoc (scope.names.lookup x) = true := h1
    rcases isLoc_of h1 with z | z
    · right
      show (relabel scope X.env).names.lookup x = some .local
      exact lookup_relS_keep (sc := X.env.scope) (fun z => nomatch z) z
    · left
      show (scope.names.lookup x == some .cell) = true
      rw [z]
      rfl
  calm := G.calm
  room := G.room
  tk := takes0.imp fun c d σ H ⟨_, _, _, _, _, _, _, f⟩ => f
  cst := G.cst
  blt := G.blt
  fns := G.fns
  call := G.call
theorem own_map {N : List Str} (own : List Nat) : (own.map fun i => (N.getD i Str.empty, i)).map (·.2) = own := by
  rw [List.map_map]
  exact List.map_id' own
theorem f_lc {own : List Nat} {ifs : List Expr} {g : IG} {ti : TDi} {tif : TDt} {te : TD} (G : Good Φ B E k Γ X) (hb : blkC Γ.N Γ.sc scope (own.map fun i => (Γ.N.getD i Str.empty, i)) = true) (hi : DI X (wd X) B tg it ti) (hf : ∀ x, foldedSetIterable it X.env x = pure x) (hg : chkG (Γ.blk scope) g tg = true) (hs : (g.slots.all own.contains) = true)
    (ht : ∀ X', wd X' = wd X → Good Φ none NoX k (Γ.blk scope) X' → PTs X' ifs (lIf (wd X) none tif)) (he : ∀ X', wd X' = wd X → Good Φ none NoX k (Γ.blk scope) X' → DE X' (wd X) none elt te) :
    DF X (wd X) B (.ListComp elt [⟨tg, it, ifs, 0⟩] scope pos) (fun ds L Q => ti ds L fun s L1 => lcR s (fun x L2 k => semG g x (wipeD ds own) fun ds2 => tif ds2 L2 fun b L3 => if b = true then te ds2 L3 fun y L4 => k (some y) L4 else k none L3) Q s.items [] L1) := by
  have ok : BlkOk X.N X.env.scope scope (own.map fun i => (Γ.N.getD i Str.empty, i)) := by rw [G.N, G.sc]; exact blkOk_by hb
  refine peI (pe_lc (g := lG (wd X) none g.slots (semG g)) (tt := lIf (wd X) none tif) (te := lE (wd X) none te) G.calm G.ndX hi ok (fun s H C cl fp => g_ok (G.blk s H C cl fp) g tg hg) (fun s H C cl fp => ht _ rfl (G.blk s H C cl fp)) (fun s H C cl fp => he _ rfl (G.blk s H C cl fp)) hf) fun σ H Q h => ?_
  rw [own_map]
  exact lc_of (fun i hi => by simpa using List.all_eq_true.mp hs i hi) h
theorem f_lc2 {own own1 : List Nat} {ifs ifs1 : List Expr} {g g1 : IG} {ti ti1 : TDi} {tif tif1 : TDt} {te : TD} {tg1 it1 : Expr} (G : Good Φ B E k Γ X) (hb : blkC Γ.N Γ.sc scope (own.map fun i => (Γ.N.getD i Str.empty, i)) = true) (h1 : (own1.all own.contains) = true) (hi : DI X (wd X) B tg it ti) (hf : ∀ x, foldedSetIterable it X.env x = pure x) (hf1 : ∀ env x, foldedSetIterable it1 env x = pure x)
    (hg : chkG (Γ.blk scope) g tg = true) (hs : (g.slots.all own.contains) = true) (hg1 : chkG (Γ.blk scope) g1 tg1 = true) (hs1 : (g1.slots.all own1.contains) = true)
    (ht : ∀ X', wd X' = wd X → Good Φ none NoX k (Γ.blk scope) X' → PTs X' ifs (lIf (wd X) none tif)) (hi1 : ∀ X', wd X' = wd X → Good Φ none NoX k (Γ.blk scope) X' → DI X' (wd X) none tg1 it1 ti1) (ht1 : ∀ X', wd X' = wd X → Good Φ none NoX k (Γ.blk scope) X' → PTs X' ifs1 (lIf (wd X) none tif1)) (he : ∀ X', wd X' = wd X → Good Φ none NoX k (Γ.blk scope) X' → DE X' (wd X) none elt te) :
    DF X (wd X) B (.ListComp elt [⟨tg, it, ifs, 0⟩, ⟨tg1, it1, ifs1, 0⟩] scope pos) (fun ds L Q => ti ds L fun s L1 => lcR2 s (fun x acc L2 k => semG g x (wipeD ds own) fun ds2 => tif ds2 L2 fun b L3 => if b = true then
      ti1 ds2 L3 fun s1 L4 => lcR s1 (fun x1 L5 k1 => semG g1 x1 (wipeD ds2 own1) fun ds3 => tif1 ds3 L5 fun b1 L6 => if b1 = true then te ds3 L6 fun y L7 => k1 (some y) L7 else k1 none L6) k s1.items acc L4 else k acc L3) Q s.items [] L1) := by
  have ok : BlkOk X.N X.env.scope scope (own.map fun i => (Γ.N.getD i Str.empty, i)) := by rw [G.N, G.sc]; exact blkOk_by hb
  refine peI (pe_lc2 (vs1 := own1) (g := lG (wd X) none g.slots (semG g)) (tt := lIf (wd X) none tif) (te := lE (wd X) none te) (wi1 := lI (wd X) none ti1) (g1 := lG (wd X) none g1.slots (semG g1)) (tt1 := lIf (wd X) none tif1) G.calm G.ndX hi ok (fun i hi => by rw [own_map]; simpa using List.all_eq_true.mp h1 i hi) (fun s H C cl fp => g_ok (G.blk s H C cl fp) g tg hg) (fun s H C cl fp => ht _ rfl (G.blk s H C cl fp)) (fun s H C cl fp => hi1 _ rfl (G.blk s H C cl fp)) (fun s H C cl fp => g_ok (G.blk s H C cl fp) g1 tg1 hg1) (fun s H C cl fp => ht1 _ rfl (G.blk s H C cl fp)) (fun s H C cl fp => he _ rfl (G.blk s H C cl fp)) hf hf1) fun σ H Q h => ?_
  rw [own_map]
  exact lc2_of (fun i hi => by simpa using List.all_eq_true.mp hs i hi) (fun i hi => by simpa using List.all_eq_true.mp hs1 i hi) h
/-! ### list(..), tuple(range(..)) -/
theorem f_of {x : Str} {p : Pos} {t : TD} (G : Good Φ B E k Γ X) (hx : Γ.gl x = true) (hxe : x = Str.ofString "list") (hs : starE e = false) (h : DE X (wd X) B e t) : DF X (wd X) B (.Call (.Name x p) [e] [] pos) (fun ds L Q => t ds L fun x L1 => seqK L1 x fun xs => Q xs L1) := by
  obtain ⟨g1, g2, g3⟩ := G.gl hx
  refine peI (pe_callTy call_list_of g1 (by rw [hxe]; exact G.blt _ (by decide +kernel)) (by rw [hxe]; decide +kernel) (pa_cons h pa_nil (star_of hs)) g3 g2 (star_of hs)) fun σ H Q ⟨m, L, ds, Qd, S, q, c⟩ =>
    ⟨m, L, ds, _, S, q, fun d L1 v m1 H1 q1 st1 rl1 r1 => ?_⟩
  obtain ⟨p, vs, xs, rfl, h1, h2, h3⟩ := seq_ok rl1 r1 q1
  refine ⟨p, vs, rfl, h3.imp id (·.1), fun l hl => c xs L1 _ _ l h2 (newAt_upd S.rl st1 rl1 hl h1)⟩
def lR (W : Wd) (B : Option En) (t : TDr) : _root_.L2.St → Hp → (Int → Int → Hp → Prop) → Prop := fun σ H Q => ∃ (m : Nb) (L : Hl) (ds : Ds) (Qd : Int → Int → Hl → Prop), Sit W B m L ds σ H ∧ t ds L Qd ∧
  ∀ i j L' m' H', Qd i j L' → Step m L H m' L' H' → RepL W m' L' H' → Q i j H'
abbrev DR (X : Cx) (W : Wd) (B : Option En) (e : Expr) (t : TDr) : Prop := PRg X e (lR W B t)
theorem r_1 {x : Str} {p : Pos} {t : TD} (G : Good Φ B E k Γ X) (hx : Γ.gl x = true) (hxe : x = Str.ofString "range") (hs : starE e = false) (h : DE X (wd X) B e t) : DR X (wd X) B (.Call (.Name x p) [e] [] pos) (dR1 t) := by
  subst hxe
  obtain ⟨g1, g2, g3⟩ := G.gl hx
  intro pins s σ H Q I ⟨m, L, ds, Qd, S, q, c⟩
  exact prg_1 g1 (G.blt _ (by decide +kernel)) h (star_of hs) pins s σ H Q I ⟨m, L, ds, _, S, q, fun d L1 v m1 H1 q1 st1 rl1 r1 => by
    cases r1 with
    | int j => exact ⟨j, rfl, c 0 j L1 m1 H1 q1 st1 rl1⟩
    | _ => exact q1.elim⟩
theorem r_2 {x : Str} {p : Pos} {e2 : Expr} {t t2 : TD} (G : Good Φ B E k Γ X) (hx : Γ.gl x = true) (hxe : x = Str.ofString "range") (hs : starE e = false) (hs2 : starE e2 = false) (h : DE X (wd X) B e t) (h2 : DE X (wd X) B e2 t2) : DR X (wd X) B (.Call (.Name x p) [e, e2] [] pos) (dR2 t t2) := by
  subst hxe
  obtain ⟨g1, g2, g3⟩ := G.gl hx
  intro pins s σ H Q I ⟨m, L, ds, Qd, S, q, c⟩
  exact prg_2 g1 (G.blt _ (by decide +kernel)) h h2 (star_of hs) (star_of hs2) (by rw [star_of hs2]; rfl) pins s σ H Q I ⟨m, L, ds, _, S, q, fun d L1 v m1 H1 q1 st1 rl1 r1 => ⟨m1, L1, ds, _, S.nx st1 rl1, q1, fun d2 L2 v2 m2 H2 q2 st2 rl2 r2 => by
    cases r1 with
    | int i => cases r2 with
      | int j => exact ⟨i, j, rfl, rfl, c i j L2 m2 H2 q2 (st1.trans st2) rl2⟩
      | _ => exact q2.elim
    | _ => exact q2.elim⟩⟩
theorem rg_rep {m : Nb} {L : Hl} {H : Hp} {a b : Int} : RepVs W m L H (rgV a b) (rngD a b) := by
  unfold rgV rngD
  generalize (List.range (b - a).toNat) = l
  induction l with
  | nil => exact .nil
  | cons i l ih => exact .cons (.int _) ih
theorem f_rng {x : Str} {p : Pos} {t : TDr} (G : Good Φ B E k Γ X) (hx : Γ.gl x = true) (hxe : x = Str.ofString "list") (hs : starE e = false) (h : DR X (wd X) B e t) : DF X (wd X) B (.Call (.Name x p) [e] [] pos) (fun ds L Q => t ds L fun i j L1 => RgOk i j ∧ Q (rngD i j) L1) := by
  subst hxe
  obtain ⟨g1, g2, g3⟩ := G.gl hx
  exact peI (pe_listRg G.calm g1 (G.blt _ (by decide +kernel)) h (star_of hs)) fun σ H Q ⟨m, L, ds, Qd, S, q, c⟩ =>
    ⟨m, L, ds, _, S, q, fun i j L1 m1 H1 q1 st1 rl1 => ⟨q1.1, fun l hl => c _ L1 _ _ l q1.2 (newAt_upd S.rl st1 rl1 hl rg_rep)⟩⟩
theorem e_tupr {x : Str} {p : Pos} {t : TDr} (G : Good Φ B E k Γ X) (hx : Γ.gl x = true) (hxe : x = Str.ofString "tuple") (hs : starE e = false) (h : DR X (wd X) B e t) : DE X (wd X) B (.Call (.Name x p) [e] [] pos) (fun ds L Q => t ds L fun i j L1 => RgOk i j ∧ Q (.tup (rngD i j)) L1) := by
  subst hxe
  obtain ⟨g1, g2, g3⟩ := G.gl hx
  exact peI (pe_tupRg G.calm g1 (G.blt _ (by decide +kernel)) h (star_of hs)) fun σ H Q ⟨m, L, ds, Qd, S, q, c⟩ =>
    ⟨m, L, ds, _, S, q, fun i j L1 m1 H1 q1 st1 rl1 => ⟨q1.1, fun l hl => c _ L1 _ m1 _ q1.2 (st1.trans (Step.laid hl)) (rl1.laid hl) (rep_tup rl1 hl rg_rep)⟩⟩
/-! ### xs + ys, xs * n -/
theorem f_cat {a b : Expr} {ta tb : TD} (ha : DE X W B a ta) (hb : DE X W B b tb) : DF X W B (.BinOp a .Add b pos) (fun ds L Q => ta ds L fun x L1 => tb ds L1 fun y L2 => (match res L2 x, res L2 y with
    | .lst xs, .lst ys => xs.length + ys.length ≤ sizeLine ∧ Q (xs ++ ys) L2
    | _, _ => False)) := peI (pe_op op_cat ha hb) fun σ H Q ⟨m, L, ds, Qd, S, q, c⟩ =>
  ⟨m, L, ds, _, S, q, fun x L1 v m1 H1 q1 st1 rl1 r1 => ⟨m1, L1, ds, _, S.nx st1 rl1, q1, fun y L2 u m2 H2 q2 st2 rl2 r2 => by
    split at q2
    · rename_i xs ys ex ey
      obtain ⟨p, vs, rfl, hv, f1⟩ := res_lst rl2 (r1.step st2) ex
      obtain ⟨q, us, rfl, hu, f2⟩ := res_lst rl2 r2 ey
      exact ⟨p, q, vs, us, rfl, rfl, hv, hu, by rw [f1.length, f2.length]; exact q2.1, fun l hl => c _ L2 _ _ l q2.2 (newAt_upd S.rl (st1.trans st2) rl2 hl (f1.append f2))⟩
    · exact q2.elim⟩⟩
theorem f_rep {a b : Expr} {ta tb : TD} (ha : DE X W B a ta) (hb : DE X W B b tb) : DF X W B (.BinOp a .Mult b pos) (fun ds L Q => ta ds L fun x L1 => tb ds L1 fun y L2 => (match res L2 x, y with
    | .lst xs, .int k => (-(2 ^ 63) ≤ k ∧ k < 2 ^ 63 ∧ xs.length * k.toNat ≤ sizeLine) ∧ Q (List.replicate k.toNat xs).flatten L2
    | _, _ => False)) := peI (pe_op op_rep ha hb) fun σ H Q ⟨m, L, ds, Qd, S, q, c⟩ =>
  ⟨m, L, ds, _, S, q, fun x L1 v m1 H1 q1 st1 rl1 r1 => ⟨m1, L1, ds, _, S.nx st1 rl1, q1, fun y L2 u m2 H2 q2 st2 rl2 r2 => by
    split at q2
    · rename_i xs kk ex
      obtain ⟨p, vs, rfl, hv, f1⟩ := res_lst rl2 (r1.step st2) ex
      cases r2
      exact ⟨p, kk, vs, rfl, rfl, hv, q2.1.1, q2.1.2.1, by rw [f1.length]; exact q2.1.2.2, fun l hl => c _ L2 _ _ l q2.2 (newAt_upd S.rl (st1.trans st2) rl2 hl (f1.rep _))⟩
    · exact q2.elim⟩⟩
/-! ### {} -/
theorem e_dnil : DE X W B (.Dict [] [] pos) (fun _ L Q => Q (.dct false [] []) L) := peI pe_dnewK fun σ H Q ⟨m, L, ds, Qd, S, q, c⟩ p hp => by
  refine c _ L _ m _ q (Step.laid hp) (S.rl.laid hp) (.dct (t := false) (kv := []) (vv := []) ?_ .nil .nil (S.rl.free hp))
  exact ⟨[], upd_same, rfl, rfl, List.nodup_nil, rfl⟩
/-! ### membership -/
def rIn2 (K : PySem.W.Frag) : R2 := fun x y H Q => rInD K x y H Q ∨ rInT K x y H Q
def rNotIn2 (K : PySem.W.Frag) : R2 := fun x y H Q => rNotInD K x y H Q ∨ rNotInT K x y H Q
theorem or_in (hu : X.A.units + 65 < cLine) : OpR X (compareOp .In) (rIn2 X.K) := (op_inD hu).or (op_inT hu)
theorem or_notin (hu : X.A.units + 65 < cLine) : OpR X (compareOp .NotIn) (rNotIn2 X.K) := (op_notInD hu).or (op_notInT hu)
theorem c_in : Op2 W (rIn2 W.K) (cmpK .isin) := by
  intro m L H x y v u Q Qd rl rv ru h k
  unfold cmpK at h
  dsimp only at h
  split at h
  · rename_i xs ey
    obtain ⟨⟨h1, h2⟩, h⟩ := h
    obtain ⟨rfl, _⟩ := res_tup ru ey
    obtain ⟨a1, a2, a3⟩ := dp_of rv 60 h1
    obtain ⟨b1, b2, b3⟩ := dp_of ru 60 h2
    refine .inr ⟨_, toP.toPs xs, a1, b1, shaped_of a2 a3 (by decide), shaped_of b2 b3 (by decide), ?_⟩
    rw [any_toPs]
    exact k _ _ _ h (Nx.refl rl) (.bl _)
  · rename_i xs ey
    obtain ⟨⟨h1, h2⟩, h⟩ := h
    obtain ⟨a1, a2, a3⟩ := dp_of rv 60 h1
    rw [← ey] at h2
    obtain ⟨b1, b2, b3⟩ := dp_res rl ru h2
    rw [ey] at b1 b2 b3
    refine .inl ⟨_, toP.toPs xs, a1, b1, shaped_of a2 a3 (by decide), shaped_of b2 b3 (by decide), ?_⟩
    rw [any_toPs]
    exact k _ _ _ h (Nx.refl rl) (.bl _)
  · exact h.elim
theorem c_notin : Op2 W (rNotIn2 W.K) (cmpK .notin) := by
  intro m L H x y v u Q Qd rl rv ru h k
  unfold cmpK at h
  dsimp only at h
  split at h
  · rename_i xs ey
    obtain ⟨⟨h1, h2⟩, h⟩ := h
    obtain ⟨rfl, _⟩ := res_tup ru ey
    obtain ⟨a1, a2, a3⟩ := dp_of rv 60 h1
    obtain ⟨b1, b2, b3⟩ := dp_of ru 60 h2
    refine .inr ⟨_, toP.toPs xs, a1, b1, shaped_of a2 a3 (by decide), shaped_of b2 b3 (by decide), ?_⟩
    rw [any_toPs]
    exact k _ _ _ h (Nx.refl rl) (.bl _)
  · rename_i xs ey
    obtain ⟨⟨h1, h2⟩, h⟩ := h
    obtain ⟨a1, a2, a3⟩ := dp_of rv 60 h1
    rw [← ey] at h2
    obtain ⟨b1, b2, b3⟩ := dp_res rl ru h2
    rw [ey] at b1 b2 b3
    refine .inl ⟨_, toP.toPs xs, a1, b1, shaped_of a2 a3 (by decide), shaped_of b2 b3 (by decide), ?_⟩
    rw [any_toPs]
    exact k _ _ _ h (Nx.refl rl) (.bl _)
  · exact h.elim
end
end Nr

/-! Methods of lists. -/
namespace Nr
open PySem PySem.Spec PyProof.Rows L2
section
variable {W : Wd} {m : Nb} {L : Hl} {H : Hp} {v : V} {vs : List V} {xs ys : List D} {n : Nat}
theorem obj_lst (rl : RepL W m L H) (r : RepV W m L H v (.obj n)) (e : L[n]? = some (.lst xs)) : ∃ vs, v = .ref (m.m n) ∧ H (m.m n) = some (.lst vs) ∧ RepVs W m L H vs xs := by
  cases r with
  | obj hi =>
    obtain ⟨vs, h1, h2⟩ := rl.ob n _ e
    exact ⟨vs, rfl, h1, h2⟩
theorem set_lst (rl : RepL W m L H) (e : L[n]? = some (.lst xs)) (r : RepVs W m L H vs ys) : Step m L H m (L.set n (.lst ys)) (upd H (m.m n) (.lst vs)) ∧ RepL W m (L.set n (.lst ys)) (upd H (m.m n) (.lst vs)) := by
  have al : Alive L n := ⟨_, e, trivial⟩
  have st : Step m L H m (L.set n (.lst ys)) (upd H (m.m n) (.lst vs)) := Step.write al
  exact ⟨st, rl.write al ⟨vs, upd_same, r.step st⟩⟩
/-- the rule r serves the method -/
def MD (W : Wd) (r : V → List V → Hp → VK → Prop) (mt : Mt) : Prop := ∀ (m : Nb) (L : Hl) (H : Hp) (v : V) (x : D) (vs : List V) (xs : List D) (Q : VK) (Qd : QE), RepL W m L H → RepV W m L H v x → RepVs W m L H vs xs → methK mt L x xs Qd →
  (∀ d L' u H', Qd d L' → Step m L H m L' H' → RepL W m L' H' → RepV W m L' H' u d → Q u H') → r v vs H Q
theorem md_append : MD W rAppend .append := by
  intro m L H v x vs xs Q Qd rl rv rs h c
  unfold methK at h
  split at h <;> try contradiction
  obtain ⟨ys, e, hl, q⟩ := h
  obtain ⟨ws, rfl, h1, h2⟩ := obj_lst rl rv e
  obtain ⟨u, rfl, ru⟩ := one_of rs
  obtain ⟨st, rl'⟩ := set_lst rl e (h2.append (.one ru))
  exact ⟨_, ws, u, rfl, rfl, h1, by rw [h2.length]; exact hl, c _ _ _ _ q st rl' .non⟩
def rPop2 : V → List V → Hp → VK → Prop := fun x vs H Q => rPop x vs H Q ∨ rPopAt x vs H Q
theorem mt_pop2 {X : Cx} : MtR X "list.pop" rPop2 := fun pins s σ H x xs v us Q I rx rxs h => h.elim (mt_pop pins s σ H x xs v us Q I rx rxs) (mt_popAt pins s σ H x xs v us Q I rx rxs)
theorem md_pop : MD W rPop2 .pop := by
  intro m L H v x vs xs Q Qd rl rv rs h c
  unfold methK at h
  split at h <;> try contradiction
  · obtain ⟨ys, y, e, hy, q⟩ := h
    obtain ⟨ws, rfl, h1, h2⟩ := obj_lst rl rv e
    cases rs
    obtain ⟨w, hw, rw'⟩ := h2.getD hy
    obtain ⟨st, rl'⟩ := set_lst rl e h2.dropLast
    exact .inl ⟨_, ws, w, rfl, rfl, h1, by rw [h2.length]; exact hw, c _ _ _ _ q st rl' (rw'.step st)⟩
  · obtain ⟨ys, j, y, e, b1, b2, hj, hy, q⟩ := h
    obtain ⟨ws, rfl, h1, h2⟩ := obj_lst rl rv e
    obtain ⟨u, rfl, ru⟩ := one_of rs
    cases ru
    obtain ⟨w, hw, rw'⟩ := h2.getD hy
    obtain ⟨st, rl'⟩ := set_lst rl e (h2.eraseIdx j)
    exact .inr ⟨_, ws, _, j, w, rfl, rfl, h1, b1, b2, by rw [h2.length]; exact hj, hw, c _ _ _ _ q st rl' (rw'.step st)⟩
theorem md_extend : MD W rExtend .extend := by
  intro m L H v x vs xs Q Qd rl rv rs h c
  unfold methK at h
  split at h <;> try contradiction
  obtain ⟨ys, zs, e, er, hne, hl, q⟩ := h
  obtain ⟨ws, rfl, h1, h2⟩ := obj_lst rl rv e
  obtain ⟨u, rfl, ru⟩ := one_of rs
  obtain ⟨p, us, rfl, g1, g2⟩ := res_lst rl ru er
  obtain ⟨st, rl'⟩ := set_lst rl e (h2.append g2)
  exact ⟨_, p, ws, us, rfl, rfl, h1, g1, by rw [h2.length, g2.length]; exact hl, c _ _ _ _ q st rl' .non⟩
theorem md_insert : MD W (fun x vs H Q => ∃ (l : Addr) (xs : List V) (i : Int) (y : V), x = .ref l ∧ vs = [.int i, y] ∧ H l = some (.lst xs) ∧ xs.length < sizeLine ∧ 0 ≤ i ∧ i < 2 ^ 63 ∧
    Q .non (upd H l (.lst (xs.take i.toNat ++ [y] ++ xs.drop i.toNat)))) .insert := by
  intro m L H v x vs xs Q Qd rl rv rs h c
  unfold methK at h
  split at h <;> try contradiction
  obtain ⟨ys, e, hl, b1, b2, q⟩ := h
  obtain ⟨ws, rfl, h1, h2⟩ := obj_lst rl rv e
  obtain ⟨u1, u, rfl, r1, ru⟩ := two_of rs
  cases r1
  obtain ⟨st, rl'⟩ := set_lst rl e (((h2.take _).append (.one ru)).append (h2.drop _))
  exact ⟨_, ws, _, u, rfl, rfl, h1, by rw [h2.length]; exact hl, b1, b2, c _ _ _ _ q st rl' .non⟩
theorem toPs_map : ∀ xs : List D, toP.toPs xs = xs.map toP
  | [] => rfl
  | x :: xs => by simp only [toP.toPs, List.map_cons, toPs_map xs]
theorem md_index : MD W (rIndexD W.K) .index := by
  intro m L H v x vs xs Q Qd rl rv rs h c
  unfold methK at h
  split at h <;> try contradiction
  obtain ⟨ys, j, e, ⟨p1, p2⟩, hj, q⟩ := h
  obtain ⟨u, rfl, ru⟩ := one_of rs
  obtain ⟨p, ws, rfl, h1, h2⟩ := res_lst rl rv e
  obtain ⟨a1, a2, a3⟩ := dp_of ru 60 p1
  rw [← e] at p2
  obtain ⟨b1, b2, b3⟩ := dp_res rl rv p2
  rw [e] at b1 b2 b3
  unfold firstAt at hj
  rw [List.findIdx?_eq_some_iff_getElem] at hj
  obtain ⟨hlt, h3, h4⟩ := hj
  refine ⟨p, u, _, toP.toPs ys, j, toP ys[j], rfl, rfl, b1, a1, shaped_of b2 b3 (by decide), shaped_of a2 a3 (by decide), ?_, h3, fun i z hi hz => ?_, c _ _ _ _ q Step.refl rl (.int _)⟩
  · rw [toPs_map, List.getElem?_map, List.getElem?_eq_getElem hlt]
    rfl
  · rw [toPs_map, List.getElem?_map, List.getElem?_eq_getElem (Nat.lt_trans hi hlt)] at hz
    cases hz
    have := h4 i hi
    simpa [deq] using this
end
section
variable {Φ : Phi} {B : Option En} {E : XS} {k : Nat} {Γ : Gm} {X : Cx} {W : Wd} {e o : Expr} {es : List Expr} {pos apos : Pos}
def dMeth (mt : Mt) (ta : TD) (t : TDs) : TD := fun ds L Q => ta ds L fun x L1 => lstAt L1 x ∧ t ds L1 fun xs L2 => methK mt L2 x xs Q
theorem tyV_lst {m : Nb} {L : Hl} {H : Hp} {v : V} {x : D} (rl : RepL (wd X) m L H) (r : RepV (wd X) m L H v x) (h : lstAt L x) : tyV X.K "list" v H := by
  obtain ⟨xs, e⟩ := h
  obtain ⟨p, vs, rfl, h1, _⟩ := res_lst rl r e
  exact .inl ⟨rfl, vs, SqL.of h1⟩
theorem base_of {name : Str} {env : Env} {w : Sem Value} (h : methBase o = true) : attributeBase o name env w = w := by
  cases o <;> first | rfl | cases h
theorem few_of {env : Env} (h : (es.all fun e => !starE e) = true) (hl : es.length < 20) : ((backTo pos (starEach es env)).all (fun x => !x.1) && (backToKw pos (keywordEach [] env)).all (fun x => x.1.isSome)
      && decide (es.length + ([] : List Keyword).length + (if ([] : List Keyword).isEmpty then 0 else 1) < 30)) = true := by
  have h1 : (backTo pos (starEach es env)).all (fun x => !x.1) = true := by
    have := plain_args (pos := pos) (env := env) h
    rw [List.any_eq_false] at this
    rw [List.all_eq_true]
    intro x hx
    simpa using this x hx
  rw [h1]
  have h2 : es.length + 0 + 0 < 30 := by omega
  simpa [backToKw, keywordEach] using h2
theorem m_fin {r : V → List V → Hp → VK → Prop} {mt : Mt} {ta : TD} {t : TDs} (hr : MD (wd X) r mt) {σ : _root_.L2.St} {H : Hp} {Q : VK} (h : lE (wd X) B (dMeth mt ta t) σ H Q) : tBM X.K "list" r (lE (wd X) B ta) (lA (wd X) B t) σ H Q := by
  obtain ⟨m, L, ds, Qd, S, q, c⟩ := h
  refine ⟨m, L, ds, _, S, q, fun x L1 v m1 H1 q1 st1 rl1 r1 => ⟨tyV_lst rl1 r1 q1.1, m1, L1, ds, _, S.nx st1 rl1, q1.2, fun xs L2 vs m2 H2 q2 st2 rl2 rs => ?_⟩⟩
  exact hr m2 L2 H2 v x vs xs Q Qd rl2 (r1.step st2) rs q2 fun d L' u H' qd st rl ru => c d L' u m2 H' qd ((st1.trans st2).trans st) rl ru
theorem meth_ok {mt : Mt} {x : Str} {ta : TD} {t : TDs} (G : Good Φ B E k Γ X) (hx : x = Str.ofString (mtName mt)) (hb : methBase o = true) (hp : (apos.endLine == pos.line) = true) (hl : (e :: es).length < 20) (hs : ((e :: es).all fun e => !starE e) = true)
    (ho : DE X (wd X) B o ta) (ha : DA X (wd X) B (e :: es) t) : DE X (wd X) B (.Call (.Attribute o x apos) (e :: es) [] pos) (dMeth mt ta t) := by
  subst hx
  have hu : X.A.units + 65 < cLine := by have := G.units; omega
  have hs' := hs
  rw [List.all_cons, Bool.and_eq_true] at hs'
  have h1 := star_of (es := es) (env := X.env) (show starE e = false by simpa using hs'.1)
  have h2 := plain_args (pos := pos) (env := X.env) hs'.2
  have h3 := few_of (pos := pos) (env := X.env) hs hl
  cases mt with
  | append => exact peI (pe_bm F.plainAttrs_list F.slot_list_append F.type_list_append mt_append ho ha (base_of hb) h3 hp h1 h2) fun σ H Q h => m_fin md_append h
  | pop => exact peI (pe_bm F.plainAttrs_list F.slot_list_pop F.type_list_pop mt_pop2 ho ha (base_of hb) h3 hp h1 h2) fun σ H Q h => m_fin md_pop h
  | extend => exact peI (pe_bm F.plainAttrs_list F.slot_list_extend F.type_list_extend mt_extend ho ha (base_of hb) h3 hp h1 h2) fun σ H Q h => m_fin md_extend h
  | insert => exact peI (pe_bm F.plainAttrs_list F.slot_list_insert F.type_list_insert mt_insert ho ha (base_of hb) h3 hp h1 h2) fun σ H Q h => m_fin md_insert h
  | index => exact peI (pe_bm F.plainAttrs_list F.slot_list_index F.type_list_index (mt_indexD hu) ho ha (base_of hb) h3 hp h1 h2) fun σ H Q h => m_fin md_index h
theorem meth0_ok {mt : Mt} {x : Str} {ta : TD} (G : Good Φ B E k Γ X) (hx : x = Str.ofString (mtName mt)) (hm : mt = .pop) (hb : methBase o = true) (hp : (apos.endLine == pos.line) = true) (ho : DE X (wd X) B o ta) :
    DE X (wd X) B (.Call (.Attribute o x apos) [] [] pos) (dMeth mt ta fun ds L Q => Q [] L) := by
  subst hx
  subst hm
  refine peI (pe_bm0 F.plainAttrs_list F.slot_list_pop F.type_list_pop mt_pop2 ho (base_of hb) hp) fun σ H Q h => ?_
  obtain ⟨m, L, ds, Qd, S, q, c⟩ := h
  refine ⟨m, L, ds, _, S, q, fun x L1 v m1 H1 q1 st1 rl1 r1 => ⟨tyV_lst rl1 r1 q1.1, ?_⟩⟩
  exact md_pop m1 L1 H1 v x [] [] Q Qd rl1 r1 .nil q1.2 fun d L' u H' qd st rl ru => c d L' u m1 H' qd (st1.trans st) rl ru
end
end Nr

/-! The small language does what the text does: all expressions. -/
namespace Nr
open PySem PySem.Spec PyProof.Rows L2
section
variable {Φ : Phi} {B : Option En} {E : XS} {k : Nat} {Γ : Gm} {X : Cx} {W : Wd} {e tg : Expr} {es : List Expr} {pos : Pos}
theorem cvE {t t' : TD} (h : DE X W B e t) (c : ∀ ds L Q, t' ds L Q → t ds L Q) : DE X W B e t' := peI h fun σ H Q ⟨m, L, ds, Qd, S, q, k⟩ => ⟨m, L, ds, Qd, S, c ds L Qd q, k⟩
theorem cvT {t t' : TD} (h : DT X W B e t) (c : ∀ ds L Q, t' ds L Q → t ds L Q) : DT X W B e t' := ptI h fun σ H Q ⟨m, L, ds, Qd, S, q, k⟩ => ⟨m, L, ds, Qd, S, c ds L Qd q, k⟩
theorem cvW {t t' : TD} (h : DW X W B e t) (c : ∀ ds L Q, t' ds L Q → t ds L Q) : DW X W B e t' := ⟨fun wh pins s σ H Q I ⟨m, L, ds, Qd, S, q, k⟩ => h.run wh pins s σ H Q I ⟨m, L, ds, Qd, S, c ds L Qd q, k⟩⟩
theorem cvA {t t' : TDs} (h : DA X W B es t) (c : ∀ ds L Q, t' ds L Q → t ds L Q) : DA X W B es t' := paI h fun σ H Q ⟨m, L, ds, Qd, S, q, k⟩ => ⟨m, L, ds, Qd, S, c ds L Qd q, k⟩
theorem cvF {t t' : TDl} (h : DF X W B e t) (c : ∀ ds L Q, t' ds L Q → t ds L Q) : DF X W B e t' := peI h fun σ H Q ⟨m, L, ds, Qd, S, q, k⟩ => ⟨m, L, ds, Qd, S, c ds L Qd q, k⟩
theorem cvI {t t' : TDi} (h : DI X W B tg e t) (c : ∀ ds L Q, t' ds L Q → t ds L Q) : DI X W B tg e t' := piI h fun σ H Q ⟨m, L, ds, Qd, S, q, k⟩ => ⟨m, L, ds, Qd, S, c ds L Qd q, k⟩
theorem cvR {t t' : TDr} (h : DR X W B e t) (c : ∀ ds L Q, t' ds L Q → t ds L Q) : DR X W B e t' := fun pins s σ H Q I ⟨m, L, ds, Qd, S, q, k⟩ => h pins s σ H Q I ⟨m, L, ds, Qd, S, c ds L Qd q, k⟩
theorem cvK {t t' : TDs} {ks : List Keyword} (h : DK X W B ks t) (c : ∀ ds L Q, t' ds L Q → t ds L Q) : DK X W B ks t' := ⟨fun pos pins s σ H Q I ⟨m, L, ds, Qd, S, q, k⟩ => h.run pos pins s σ H Q I ⟨m, L, ds, Qd, S, c ds L Qd q, k⟩⟩
theorem both {t : TD} (h : DE X (wd X) B e t) (he : ∀ whole, isTrue e X.env whole = (do let v ← whole; standAt e.pos; holding [v] (truthy v))) : DE X (wd X) B e t ∧ DT X (wd X) B e t := ⟨h, t_truth h he⟩
theorem t_ite {c' a b : Expr} {t ta tb : TD} (hc : DT X W B c' t) (ha : DT X W B a ta) (hb : DT X W B b tb) : DT X W B (.IfExp c' a b pos) (dIte t ta tb) :=
  ⟨fun pins s σ H Q I ⟨m, L, ds, Qd, S, q, c⟩ => wpAny_bind (thn (hc.run pins s σ H (fun b H1 => ∃ m1 L1, (if b = true then ta ds L1 Qd else tb ds L1 Qd) ∧ Step m L H m1 L1 H1 ∧ RepL W m1 L1 H1) I ⟨m, L, ds, _, S, q, fun d L1 m1 H1 ⟨k, e, q1⟩ st1 rl1 => ⟨k, e, m1, L1, q1, st1, rl1⟩⟩) fun b s1 ⟨H1, I1, m1, L1, q1, st1, rl1⟩ => by
    cases b with
    | true => exact ha.run pins s1 σ H1 Q I1 ⟨m1, L1, ds, Qd, S.nx st1 rl1, q1, fun d L2 m2 H2 q2 st2 rl2 => c d L2 m2 H2 q2 (st1.trans st2) rl2⟩
    | false => exact hb.run pins s1 σ H1 Q I1 ⟨m1, L1, ds, Qd, S.nx st1 rl1, q1, fun d L2 m2 H2 q2 st2 rl2 => c d L2 m2 H2 q2 (st1.trans st2) rl2⟩)⟩
def tE (Φ : Phi) (E : XS) (ir : IE) : TD := fun ds L Q => semE Φ ir (fun c L => E c ds L) ds L Q
def tEs (Φ : Phi) (E : XS) (ir : IEs) : TDs := fun ds L Q => semEs Φ ir (fun c L => E c ds L) ds L Q
def tF (Φ : Phi) (E : XS) (ir : IF) : TDl := fun ds L Q => semF Φ ir (fun c L => E c ds L) ds L Q
def tR (Φ : Phi) (E : XS) (ir : IR) : TDr := fun ds L Q => semR Φ ir (fun c L => E c ds L) ds L Q
def tI (Φ : Phi) (E : XS) (ir : II) : TDi := fun ds L Q => semI Φ ir (fun c L => E c ds L) ds L Q
def tIff (Φ : Phi) (E : XS) (ir : IEs) : TDt := fun ds L Q => semIf Φ ir (fun c L => E c ds L) ds L Q
/-- operators -/
theorem bin_all {o : B2} {op : Operator} {a b : Expr} {ta tb : TD} (h : opB o op = true) (ha : DE X (wd X) B a ta) (hb : DE X (wd X) B b tb) : DE X (wd X) B (.BinOp a op b pos) (d2 (binK o) ta tb) := by
  cases o <;> cases op <;> first | (cases h; done) | skip
  · exact de_bin or_add b_add ha hb
  · exact de_bin op_sub b_int0 ha hb
  · exact de_bin or_mul b_mul ha hb
  · exact de_bin op_mod b_int ha hb
  · exact de_bin op_fdivW b_int ha hb
  · exact de_bin op_pow b_int ha hb
theorem cmp_ex {o : C2} {op : CmpOp} (hu : X.A.units + 200 < cLine) (h : opC o op = true) : ∃ r, OpR X (compareOp op) r ∧ Op2 (wd X) r (cmpK o) := by
  have h64 : X.A.units + 64 < cLine := by omega
  have h65 : X.A.units + 65 < cLine := by omega
  cases o <;> cases op <;> first | (cases h; done) | skip
  · exact ⟨_, op_eqD h64, c_eq⟩
  · exact ⟨_, op_neD h64, c_ne⟩
  · exact ⟨_, or_lt h64, c_lt⟩
  · exact ⟨_, op_le, c_le⟩
  · exact ⟨_, op_gt, c_gt⟩
  · exact ⟨_, op_ge, c_ge⟩
  · exact ⟨_, or_is, c_is⟩
  · exact ⟨_, or_isnot, c_isnot⟩
  · exact ⟨_, or_in h65, c_in⟩
  · exact ⟨_, or_notin h65, c_notin⟩
theorem isi_all {t : Ty} {x : Str} {c : Expr} {p : Pos} {ta : TD} (G : Good Φ B E k Γ X) (hx : Γ.gl x = true) (hxe : x = Str.ofString "isinstance") (hc : chkTy Γ t c = true) (hn : ∀ c, t ≠ .cls c) (hs : starE e = false) (ha : DE X (wd X) B e ta) : DE X (wd X) B (.Call (.Name x p) [e, c] [] pos) (dIsi t ta) := by
  unfold chkTy at hc
  split at hc
  · obtain ⟨h1, h2⟩ := b2 hc
    have h2 := of_decide_eq_true h2
    exact isi_one G hx hxe h1 (by rw [h2]; exact G.blt _ (by decide +kernel)) (by rw [h2]; decide +kernel) kit_int hn hs ha
  · obtain ⟨h1, h2⟩ := b2 hc
    have h2 := of_decide_eq_true h2
    exact isi_one G hx hxe h1 (by rw [h2]; exact G.blt _ (by decide +kernel)) (by rw [h2]; decide +kernel) kit_bool hn hs ha
  · obtain ⟨h1, h2⟩ := b2 hc
    have h2 := of_decide_eq_true h2
    exact isi_one G hx hxe h1 (by rw [h2]; exact G.blt _ (by decide +kernel)) (by rw [h2]; decide +kernel) kit_str hn hs ha
  · obtain ⟨h1, h2⟩ := b2 hc
    have h2 := of_decide_eq_true h2
    exact isi_one G hx hxe h1 (by rw [h2]; exact G.blt _ (by decide +kernel)) (by rw [h2]; decide +kernel) kit_tuple hn hs ha
  · obtain ⟨h1, h2⟩ := b2 hc
    have h2 := of_decide_eq_true h2
    exact isi_one G hx hxe h1 (by rw [h2]; exact G.blt _ (by decide +kernel)) (by rw [h2]; decide +kernel) kit_list hn hs ha
  · obtain ⟨h1, h2⟩ := b2 hc
    have h2 := of_decide_eq_true h2
    exact isi_one G hx hxe h1 (by rw [h2]; exact G.blt _ (by decide +kernel)) (by rw [h2]; decide +kernel) kit_dict hn hs ha
  · obtain ⟨h1, h2⟩ := b2 hc
    obtain ⟨h3, h4⟩ := b2 h1
    obtain ⟨h5, h6⟩ := b2 h2
    exact isi_seq G hx hxe h3 (of_decide_eq_true h4) h5 (of_decide_eq_true h6) hs ha
  · cases hc
theorem slc_all {a : Expr} {lo hi : Option Expr} {p2 : Pos} {ta : TD} {il ih : IE} (ha : DE X (wd X) B a ta) (hl : PO X lo (lO (wd X) B (isOmit il) (tE Φ E il))) (hh : PO X hi (lO (wd X) B (isOmit ih) (tE Φ E ih))) :
    DE X (wd X) B (.Subscript a (.Slice lo hi none p2) pos) (fun ds L Q => ta ds L fun x L1 => partK (isOmit il) (tE Φ E il ds) L1 fun l L2 => partK (isOmit ih) (tE Φ E ih ds) L2 fun u L3 => slcK L3 x l u fun z => Q z L3) := slc_ok ha hl hh
end
end Nr

/-! The small language does what the text does: all expressions, by one recursion. -/
namespace Nr
open PySem PySem.Spec PyProof.Rows L2
section
variable {Φ : Phi} {k : Nat}
theorem nb {b : Bool} (h : (!b) = true) : b = false := by simpa using h
theorem isOmit_false {Γ : Gm} {ir : IE} {e : Expr} (h : chkE Γ ir e = true) : isOmit ir = false := by
  cases ir <;> first | rfl | (simp [chkE] at h; done)
theorem es_nil {Γ : Gm} {es : List Expr} {ir : IEs} (h : chkEs Γ ir es = true) (he : es = []) : ir = .nil := by
  subst he
  cases ir with
  | nil => rfl
  | cons a b => simp [chkEs] at h
theorem po_all {B : Option En} {E : XS} {Γ : Gm} {X : Cx} {il : IE} {lo : Option Expr} (h : chkO Γ il lo = true) (hE : ∀ e, chkE Γ il e = true → DE X (wd X) B e (tE Φ E il)) : PO X lo (lO (wd X) B (isOmit il) (tE Φ E il)) := by
  cases lo with
  | none => cases il <;> first | exact po_omit | cases h
  | some e =>
    have h : chkE Γ il e = true := h
    rw [isOmit_false h]
    exact po_e (hE e h)
theorem in_two {B : Option En} {E : XS} {Γ : Gm} {X : Cx} {e : Expr} {t : TD} (h : DE X (wd X) B e t ∧ DT X (wd X) B e t) : DE X (wd X) B e t := h.1
theorem foldI {Γ : Gm} {ir : II} {e : Expr} {env : Env} (h : chkI Γ ir e = true) : ∀ x, foldedSetIterable e env x = pure x := fun x => by
  cases ir with
  | seq i => exact fold_of (chkE_star i e (by unfold chkI at h; exact h))
  | enum a => unfold chkI at h; cases h
  | _ => unfold chkI at h; split at h <;> first | rfl | cases h
mutual
theorem sndE {B : Option En} {E : XS} {Γ : Gm} {X : Cx} (G : Good Φ B E k Γ X) : ∀ (ir : IE) (e : Expr), chkE Γ ir e = true → DE X (wd X) B e (tE Φ E ir) ∧ DT X (wd X) B e (tE Φ E ir)
  | .var i, e, h => by
    unfold chkE at h; split at h <;> first | (cases h; done) | skip
    exact both (cvE (de_var (G.var h)) fun ds L Q q => by unfold tE semE at q; exact q) fun _ => rfl
  | .int i, e, h => by
    unfold chkE at h; split at h <;> first | (cases h; done) | skip
    cases of_decide_eq_true h
    exact both (cvE (de_int pe_int) fun ds L Q q => by unfold tE semE at q; exact q) fun _ => rfl
  | .str s, e, h => by
    unfold chkE at h; split at h <;> first | (cases h; done) | skip
    obtain ⟨h1, h2⟩ := b2 h
    cases of_decide_eq_true h1
    exact both (cvE (de_str h2 pe_str) fun ds L Q q => by unfold tE semE at q; exact q) fun _ => rfl
  | .bl b, e, h => by
    unfold chkE at h; split at h <;> first | (cases h; done) | skip
    rename_i c _ _
    have hbc : b = c := by simpa using h
    cases hbc
    exact both (cvE (de_bl pe_bl) fun ds L Q q => by unfold tE semE at q; exact q) fun _ => rfl
  | .non, e, h => by
    unfold chkE at h; split at h <;> first | (cases h; done) | skip
    exact both (cvE (de_non pe_non) fun ds L Q q => by unfold tE semE at q; exact q) fun _ => rfl
  | .gint x i, e, h => by
    unfold chkE at h; split at h <;> first | (cases h; done) | skip
    obtain ⟨h1, h3⟩ := b2 h
    obtain ⟨h1, h2⟩ := b2 h1
    obtain ⟨g1, g2, g3⟩ := G.gl h1
    obtain ⟨t, ht⟩ := G.cst _ i (of_decide_eq_true h3)
    exact both (cvE (de_int (pe_glob g1 ht ⟨t, rfl⟩ g2)) fun ds L Q q => by unfold tE semE at q; exact q) fun _ => rfl
  | .omit, e, h => by simp [chkE] at h
  | .tup es, e, h => by
    unfold chkE at h; split at h <;> first | (cases h; done) | skip
    exact both (cvE (e_tup (sndEs G es _ h)) fun ds L Q q => by unfold tE semE at q; exact q) fun _ => rfl
  | .frz f, e, h => by
    replace h : chkF Γ f e = true := by unfold chkE at h; exact h
    have := e_frz (sndF G f e h)
    refine both (cvE this fun ds L Q q => by unfold tE semE at q; exact q) ?_
    cases f <;> unfold chkF at h <;> (try split at h) <;> first | exact fun _ => rfl | (cases h; done)
  | .newl f, e, h => by
    replace h : chkF Γ f e = true := by unfold chkE at h; exact h
    have := e_newl (sndF G f e h)
    refine both (cvE this fun ds L Q q => by unfold tE semE at q; exact q) ?_
    cases f <;> unfold chkF at h <;> (try split at h) <;> first | exact fun _ => rfl | (cases h; done)
  | .frzd f, e, h => by
    replace h : chkD Γ f e = true := by unfold chkE at h; exact h
    cases f with
    | nil t =>
      cases e <;> first | (simp [chkD] at h; done) | skip
      rename_i ks vs pos
      cases ks with
      | cons a r => simp [chkD] at h
      | nil => cases vs with
        | cons a r => simp [chkD] at h
        | nil => cases t with
          | true => simp [chkD] at h
          | false => exact both (cvE e_dnil fun ds L Q q => by unfold tE semE semD at q; exact q) fun _ => rfl
    | _ => unfold chkD at h; cases h
  | .newd f, e, h => by unfold chkE at h; cases h
  | .bin o a b, e, h => by
    unfold chkE at h; split at h <;> first | (cases h; done) | skip
    obtain ⟨h1, h3⟩ := b2 h
    obtain ⟨h1, h2⟩ := b2 h1
    exact both (cvE (bin_all h1 (sndE G a _ h2).1 (sndE G b _ h3).1) fun ds L Q q => by unfold tE semE at q; exact q) fun _ => rfl
  | .cmp o a b, e, h => by
    unfold chkE at h; split at h <;> first | (cases h; done) | skip
    obtain ⟨h1, h4⟩ := b2 h
    obtain ⟨h1, h3⟩ := b2 h1
    obtain ⟨h1, h2⟩ := b2 h1
    have h4 := nb h4
    obtain ⟨r, hr, ho⟩ := cmp_ex G.units h1
    exact ⟨cvE (de_cmp hr ho (sndE G a _ h2).1 (sndE G b _ h3).1 h4) fun ds L Q q => by unfold tE semE at q; exact q, cvT (t_cmp hr ho (sndE G a _ h2).1 (sndE G b _ h3).1 h4) fun ds L Q q => by unfold tE semE at q; exact q⟩
  | .chain o o' a b c, e, h => by
    unfold chkE at h; split at h <;> first | (cases h; done) | skip
    obtain ⟨h1, h7⟩ := b2 h
    obtain ⟨h1, h6⟩ := b2 h1
    obtain ⟨h1, h5⟩ := b2 h1
    obtain ⟨h1, h4⟩ := b2 h1
    obtain ⟨h1, h3⟩ := b2 h1
    obtain ⟨h1, h2⟩ := b2 h1
    have h7 := nb h7
    obtain ⟨r, hr, ho⟩ := cmp_ex G.units h1
    obtain ⟨r', hr', ho'⟩ := cmp_ex G.units h2
    exact ⟨cvE (e_chain hr ho hr' ho' (sndE G a _ h3).1 (sndE G b _ h4).1 (sndE G c _ h5).1 h7) fun ds L Q q => by unfold tE semE at q; exact q, cvT (t_chain hr ho hr' ho' (sndE G a _ h3).1 (sndE G b _ h4).1 (sndE G c _ h5).1 h7) fun ds L Q q => by unfold tE semE at q; exact q⟩
  | .neg a, e, h => by
    unfold chkE at h; split at h <;> first | (cases h; done) | skip
    exact both (cvE (neg_ok (sndE G a _ h).1) fun ds L Q q => by unfold tE semE at q; exact q) fun _ => rfl
  | .not a, e, h => by
    unfold chkE at h; split at h <;> first | (cases h; done) | skip
    exact ⟨cvE (e_not (sndE G a _ h).1) fun ds L Q q => by unfold tE semE at q; exact q, cvT (t_not (sndE G a _ h).2) fun ds L Q q => by unfold tE semE at q; exact q⟩
  | .and es, e, h => by
    unfold chkE at h; split at h <;> first | (cases h; done) | skip
    obtain ⟨h1, h2⟩ := sndAnd G es _ _ h
    exact ⟨cvE h1 fun ds L Q q => by unfold tE semE at q; exact q, cvT h2.pt fun ds L Q q => by unfold tE semE at q; exact q⟩
  | .or es, e, h => by
    unfold chkE at h; split at h <;> first | (cases h; done) | skip
    obtain ⟨h1, h2⟩ := sndOr G es _ _ h
    exact ⟨cvE h1 fun ds L Q q => by unfold tE semE at q; exact q, cvT h2.pt fun ds L Q q => by unfold tE semE at q; exact q⟩
  | .ite c a b, e, h => by
    unfold chkE at h; split at h <;> first | (cases h; done) | skip
    obtain ⟨h1, h3⟩ := b2 h
    obtain ⟨h1, h2⟩ := b2 h1
    exact ⟨cvE (e_ite (sndE G c _ h1).2 (sndE G a _ h2).1 (sndE G b _ h3).1) fun ds L Q q => by unfold tE semE at q; exact q, cvT (t_ite (sndE G c _ h1).2 (sndE G a _ h2).2 (sndE G b _ h3).2) fun ds L Q q => by unfold tE semE at q; exact q⟩
  | .idx a b, e, h => by
    unfold chkE at h; split at h <;> first | (cases h; done) | skip
    obtain ⟨h1, h3⟩ := b2 h
    obtain ⟨h1, h2⟩ := b2 h1
    have h3 := nb h3
    exact both (cvE (idx_ok h3 (sndE G a _ h1).1 (sndE G b _ h2).1) fun ds L Q q => by unfold tE semE at q; exact q) fun _ => rfl
  | .slc a lo hi, e, h => by
    unfold chkE at h; split at h <;> first | (cases h; done) | skip
    obtain ⟨h1, h3⟩ := b2 h
    obtain ⟨h1, h2⟩ := b2 h1
    exact both (cvE (slc_all (sndE G a _ h1).1 (po_all h2 fun e h => (sndE G lo e h).1) (po_all h3 fun e h => (sndE G hi e h).1)) fun ds L Q q => by unfold tE semE at q; exact q) fun _ => rfl
  | .call f es, e, h => by
    unfold chkE at h; split at h <;> first | (cases h; done) | skip
    rename_i x p es' pos
    obtain ⟨h1, h4⟩ := b2 h
    obtain ⟨h1, h3⟩ := b2 h1
    obtain ⟨h1, h2⟩ := b2 h1
    cases of_decide_eq_true h2
    cases es' with
    | nil =>
      cases es_nil h4 rfl
      exact both (cvE (call0_ok G h1 h3) fun ds L Q q => by unfold tE semE semEs at q; exact q) fun _ => rfl
    | cons a r => exact both (cvE (call_ok G h1 h3 (chkEs_star es _ h4) (sndEs G es _ h4)) fun ds L Q q => by unfold tE semE at q; exact q) fun _ => rfl
  | .callk f es ks perm, e, h => by
    unfold chkE at h; split at h <;> first | (cases h; done) | skip
    rename_i x p es' kws pos
    obtain ⟨h1, h9⟩ := b2 h
    obtain ⟨h1, h8⟩ := b2 h1
    obtain ⟨h1, h7⟩ := b2 h1
    obtain ⟨h1, h6⟩ := b2 h1
    obtain ⟨h1, h5⟩ := b2 h1
    obtain ⟨h1, h4⟩ := b2 h1
    obtain ⟨h1, h3⟩ := b2 h1
    obtain ⟨h1, h2⟩ := b2 h1
    cases of_decide_eq_true h2
    refine both (cvE (callk_ok (t := tEs Φ E es) (u := tEs Φ E ks) G h1 h3 (chkEs_star es _ h4) h6 (of_decide_eq_true h7) (of_decide_eq_true h8) (of_decide_eq_true h9) (sndEs G es _ h4) (fun e0 => ?_) (sndK G ks _ h5)) fun ds L Q q => by unfold tE semE at q; exact q) fun _ => rfl
    cases es_nil h4 e0
    funext ds L Q
    show semEs Φ .nil _ ds L Q = Q [] L
    unfold semEs
    rfl
  | .bi b es, e, h => by
    unfold chkE at h; split at h <;> first | (cases h; done) | skip
    rename_i x p es' pos
    simp only [Bool.and_eq_true] at h
    obtain ⟨⟨⟨h1, h2⟩, h3⟩, h4⟩ := h
    cases es' with
    | nil => cases h3
    | cons a r => exact both (cvE (bi_ok G h1 (of_decide_eq_true h2) (chkEs_star es _ h4) (sndEs G es _ h4)) fun ds L Q q => by unfold tE semE at q; exact q) fun _ => rfl
  | .tupr r, e, h => by
    unfold chkE at h; split at h <;> first | (cases h; done) | skip
    obtain ⟨h1, h5⟩ := b2 h
    obtain ⟨h1, h4⟩ := b2 h1
    obtain ⟨h1, h3⟩ := b2 h1
    obtain ⟨h1, h2⟩ := b2 h1
    exact both (cvE (e_tupr G h1 (of_decide_eq_true h2) rfl (sndR G r _ _ _ _ h3 (of_decide_eq_true h4) h5)) fun ds L Q q => by unfold tE semE at q; exact q) fun _ => rfl
  | .isi a t, e, h => by
    unfold chkE at h; split at h <;> first | (cases h; done) | skip
    obtain ⟨h1, h4⟩ := b2 h
    obtain ⟨h1, h3⟩ := b2 h1
    obtain ⟨h1, h2⟩ := b2 h1
    exact both (cvE (isi_all G h1 (of_decide_eq_true h2) h4 (fun c e => by subst e; simp [chkTy] at h4) (chkE_star a _ h3) (sndE G a _ h3).1) fun ds L Q q => by unfold tE semE at q; exact q) fun _ => rfl
  | .meth m a es, e, h => by
    unfold chkE at h; split at h <;> first | (cases h; done) | skip
    rename_i a' x ap es' cp
    simp only [Bool.and_eq_true] at h
    obtain ⟨⟨⟨h1, ⟨⟨h2, h5⟩, h6⟩, h7⟩, h3⟩, h4⟩ := h
    cases es' with
    | nil =>
      cases es_nil h4 rfl
      have hm : m = .pop := by simpa using h7
      exact both (cvE (meth0_ok G (of_decide_eq_true h1) hm h2 h5 (sndE G a _ h3).1) fun ds L Q q => by unfold tE semE semEs at q; exact q) fun _ => rfl
    | cons b r => exact both (cvE (meth_ok G (of_decide_eq_true h1) h2 h5 (of_decide_eq_true h6) (chkEs_star es _ h4) (sndE G a _ h3).1 (sndEs G es _ h4)) fun ds L Q q => by unfold tE semE at q; exact q) fun _ => rfl
theorem sndEs {B : Option En} {E : XS} {Γ : Gm} {X : Cx} (G : Good Φ B E k Γ X) : ∀ (ir : IEs) (es : List Expr), chkEs Γ ir es = true → DA X (wd X) B es (tEs Φ E ir)
  | .nil, es, h => by
    unfold chkEs at h; split at h <;> first | (cases h; done) | skip
    exact cvA a_nil fun ds L Q q => by unfold tEs semEs at q; exact q
  | .cons i ir, es, h => by
    unfold chkEs at h; split at h <;> first | (cases h; done) | skip
    obtain ⟨h1, h2⟩ := b2 h
    exact cvA (a_cons (chkE_star i _ h1) (sndE G i _ h1).1 (sndEs G ir _ h2)) fun ds L Q q => by unfold tEs semEs at q; exact q
theorem sndAnd {B : Option En} {E : XS} {Γ : Gm} {X : Cx} (G : Good Φ B E k Γ X) : ∀ (ir : IEs) (es : List Expr) (pos : Pos), chkEs Γ ir es = true →
    DE X (wd X) B (.BoolOp .And es pos) (fun ds L Q => semAnd Φ ir (fun c L => E c ds L) ds L Q) ∧ DW X (wd X) B (.BoolOp .And es pos) (fun ds L Q => semAnd Φ ir (fun c L => E c ds L) ds L Q)
  | .nil, es, pos, h => by
    refine ⟨⟨fun pins s σ H Q I z => ?_⟩, ⟨fun wh pins s σ H Q I z => ?_⟩⟩ <;> (obtain ⟨m, L, ds, Qd, S, q, c⟩ := z; unfold semAnd at q; exact q.elim)
  | .cons i .nil, es, pos, h => by
    unfold chkEs at h; split at h <;> first | (cases h; done) | skip
    obtain ⟨h1, h2⟩ := b2 h
    unfold chkEs at h2; split at h2 <;> first | (cases h2; done) | skip
    obtain ⟨g1, g2⟩ := sndE G i _ h1
    exact ⟨cvE (pe_one g1) fun ds L Q q => by unfold semAnd at q; exact q, cvW (t_and1 g2) fun ds L Q q => by unfold semAnd at q; exact q⟩
  | .cons i (.cons j ir), es, pos, h => by
    unfold chkEs at h; split at h <;> first | (cases h; done) | skip
    obtain ⟨h1, h2⟩ := b2 h
    obtain ⟨g1, g2⟩ := sndE G i _ h1
    obtain ⟨f1, f2⟩ := sndAnd G (.cons j ir) _ pos h2
    unfold chkEs at h2; split at h2 <;> first | (cases h2; done) | skip
    exact ⟨cvE (e_and g1 f1) fun ds L Q q => by unfold semAnd at q; exact q, cvW (t_and g2 f2) fun ds L Q q => by unfold semAnd at q; exact q⟩
theorem sndOr {B : Option En} {E : XS} {Γ : Gm} {X : Cx} (G : Good Φ B E k Γ X) : ∀ (ir : IEs) (es : List Expr) (pos : Pos), chkEs Γ ir es = true →
    DE X (wd X) B (.BoolOp .Or es pos) (fun ds L Q => semOr Φ ir (fun c L => E c ds L) ds L Q) ∧ DW X (wd X) B (.BoolOp .Or es pos) (fun ds L Q => semOr Φ ir (fun c L => E c ds L) ds L Q)
  | .nil, es, pos, h => by
    refine ⟨⟨fun pins s σ H Q I z => ?_⟩, ⟨fun wh pins s σ H Q I z => ?_⟩⟩ <;> (obtain ⟨m, L, ds, Qd, S, q, c⟩ := z; unfold semOr at q; exact q.elim)
  | .cons i .nil, es, pos, h => by
    unfold chkEs at h; split at h <;> first | (cases h; done) | skip
    obtain ⟨h1, h2⟩ := b2 h
    unfold chkEs at h2; split at h2 <;> first | (cases h2; done) | skip
    obtain ⟨g1, g2⟩ := sndE G i _ h1
    exact ⟨cvE (pe_one g1) fun ds L Q q => by unfold semOr at q; exact q, cvW (t_or1 g2) fun ds L Q q => by unfold semOr at q; exact q⟩
  | .cons i (.cons j ir), es, pos, h => by
    unfold chkEs at h; split at h <;> first | (cases h; done) | skip
    obtain ⟨h1, h2⟩ := b2 h
    obtain ⟨g1, g2⟩ := sndE G i _ h1
    obtain ⟨f1, f2⟩ := sndOr G (.cons j ir) _ pos h2
    unfold chkEs at h2; split at h2 <;> first | (cases h2; done) | skip
    exact ⟨cvE (e_or g1 f1) fun ds L Q q => by unfold semOr at q; exact q, cvW (t_or g2 f2) fun ds L Q q => by unfold semOr at q; exact q⟩
theorem sndIf {B : Option En} {E : XS} {Γ : Gm} {X : Cx} (G : Good Φ B E k Γ X) : ∀ (ir : IEs) (es : List Expr), chkIf Γ ir es = true → PTs X es (lIf (wd X) B (tIff Φ E ir))
  | .nil, es, h => by
    unfold chkIf at h; split at h <;> first | (cases h; done) | skip
    exact ⟨fun pins s σ H Q I ⟨m, L, ds, Qd, S, q, c⟩ => pts_nil.run pins s σ H Q I (c true L m H (by unfold tIff semIf at q; exact q) Step.refl S.rl)⟩
  | .cons i .nil, es, h => by
    unfold chkIf at h; split at h <;> first | (cases h; done) | skip
    exact ⟨fun pins s σ H Q I ⟨m, L, ds, Qd, S, q, c⟩ => (pts_one (sndE G i _ h).2).run pins s σ H Q I ⟨m, L, ds, _, S, (by unfold tIff semIf at q; exact q), fun d L' m' H' q' st rl => by
      obtain ⟨b, e, q'⟩ := q'
      exact ⟨b, e, c b L' m' H' q' st rl⟩⟩⟩
  | .cons _ (.cons _ _), es, h => by simp [chkIf] at h
theorem sndK {B : Option En} {E : XS} {Γ : Gm} {X : Cx} (G : Good Φ B E k Γ X) : ∀ (ir : IEs) (ks : List Keyword), chkKs Γ ir ks = true → DK X (wd X) B ks (tEs Φ E ir)
  | .nil, es, h => by
    unfold chkKs at h; split at h <;> first | (cases h; done) | skip
    exact cvK k_nil fun ds L Q q => by unfold tEs semEs at q; exact q
  | .cons i ir, es, h => by
    unfold chkKs at h; split at h <;> first | (cases h; done) | skip
    obtain ⟨h1, h2⟩ := b2 h
    exact cvK (k_cons (sndE G i _ h1).1 (sndK G ir _ h2)) fun ds L Q q => by unfold tEs semEs at q; exact q
theorem sndR {B : Option En} {E : XS} {Γ : Gm} {X : Cx} (G : Good Φ B E k Γ X) : ∀ (ir : IR) (x : Str) (p pos : Pos) (es : List Expr), Γ.gl x = true → x = Str.ofString "range" → chkR Γ ir es = true → DR X (wd X) B (.Call (.Name x p) es [] pos) (tR Φ E ir)
  | .one b, x, p, pos, es, hx, hxe, h => by
    unfold chkR at h; split at h <;> first | (cases h; done) | skip
    exact cvR (r_1 G hx hxe (chkE_star b _ h) (sndE G b _ h).1) fun ds L Q q => by unfold tR semR at q; exact q
  | .two a b, x, p, pos, es, hx, hxe, h => by
    unfold chkR at h; split at h <;> first | (cases h; done) | skip
    obtain ⟨h1, h2⟩ := b2 h
    exact cvR (r_2 G hx hxe (chkE_star a _ h1) (chkE_star b _ h2) (sndE G a _ h1).1 (sndE G b _ h2).1) fun ds L Q q => by unfold tR semR at q; exact q
theorem sndI {B : Option En} {E : XS} {Γ : Gm} {X : Cx} (G : Good Φ B E k Γ X) : ∀ (ir : II) (tg e : Expr), chkI Γ ir e = true → tgOk ir tg = true → DI X (wd X) B tg e (tI Φ E ir)
  | .seq i, tg, e, h, _ => by
    have h : chkE Γ i e = true := by unfold chkI at h; exact h
    exact cvI (i_seq (sndE G i e h).1) fun ds L Q q => by unfold tI semI at q; exact q
  | .rng (.one b), tg, e, h, _ => by
    unfold chkI at h; split at h <;> first | (cases h; done) | skip
    obtain ⟨h1, h3⟩ := b2 h
    obtain ⟨h1, h2⟩ := b2 h1
    unfold chkR at h3; split at h3 <;> first | (cases h3; done) | skip
    exact cvI (i_rng1 G h1 (of_decide_eq_true h2) (chkE_star b _ h3) (sndE G b _ h3).1) fun ds L Q q => by unfold tI semI semR at q; exact q
  | .rng (.two a b), tg, e, h, _ => by
    unfold chkI at h; split at h <;> first | (cases h; done) | skip
    obtain ⟨h1, h3⟩ := b2 h
    obtain ⟨h1, h2⟩ := b2 h1
    unfold chkR at h3; split at h3 <;> first | (cases h3; done) | skip
    obtain ⟨h4, h5⟩ := b2 h3
    exact cvI (i_rng2 G h1 (of_decide_eq_true h2) (chkE_star a _ h4) (chkE_star b _ h5) (sndE G a _ h4).1 (sndE G b _ h5).1) fun ds L Q q => by unfold tI semI semR at q; exact q
  | .enum a, tg, e, h, _ => by
    unfold chkI at h; cases h
  | .zip a b, tg, e, h, ht => by
    unfold chkI at h; split at h <;> first | (cases h; done) | skip
    obtain ⟨h1, h4⟩ := b2 h
    obtain ⟨h1, h3⟩ := b2 h1
    obtain ⟨h1, h2⟩ := b2 h1
    cases tg <;> first | (simp [tgOk] at ht; done) | skip
    exact cvI (i_zip G h1 (of_decide_eq_true h2) (chkE_star a _ h3) (chkE_star b _ h4) (sndE G a _ h3).1 (sndE G b _ h4).1) fun ds L Q q => by unfold tI semI at q; exact q
theorem sndF {B : Option En} {E : XS} {Γ : Gm} {X : Cx} (G : Good Φ B E k Γ X) : ∀ (ir : IF) (e : Expr), chkF Γ ir e = true → DF X (wd X) B e (tF Φ E ir)
  | .disp es, e, h => by
    unfold chkF at h; split at h <;> first | (cases h; done) | skip
    exact cvF (f_disp (sndEs G es _ h)) fun ds L Q q => by unfold tF semF at q; exact q
  | .of i, e, h => by
    unfold chkF at h; split at h <;> first | (cases h; done) | skip
    obtain ⟨h1, h3⟩ := b2 h
    obtain ⟨h1, h2⟩ := b2 h1
    exact cvF (f_of G h1 (of_decide_eq_true h2) (chkE_star i _ h3) (sndE G i _ h3).1) fun ds L Q q => by unfold tF semF at q; exact q
  | .rng r, e, h => by
    unfold chkF at h; split at h <;> first | (cases h; done) | skip
    obtain ⟨h1, h5⟩ := b2 h
    obtain ⟨h1, h4⟩ := b2 h1
    obtain ⟨h1, h3⟩ := b2 h1
    obtain ⟨h1, h2⟩ := b2 h1
    exact cvF (f_rng G h1 (of_decide_eq_true h2) rfl (sndR G r _ _ _ _ h3 (of_decide_eq_true h4) h5)) fun ds L Q q => by unfold tF semF at q; exact q
  | .sorted i, e, h => by
    unfold chkF at h; cases h
  | .cat a b, e, h => by
    unfold chkF at h; split at h <;> first | (cases h; done) | skip
    obtain ⟨h1, h2⟩ := b2 h
    exact cvF (f_cat (sndE G a _ h1).1 (sndE G b _ h2).1) fun ds L Q q => by unfold tF semF at q; exact q
  | .rep a b, e, h => by
    unfold chkF at h; split at h <;> first | (cases h; done) | skip
    obtain ⟨h1, h2⟩ := b2 h
    exact cvF (f_rep (sndE G a _ h1).1 (sndE G b _ h2).1) fun ds L Q q => by unfold tF semF at q; exact q
  | .lc own i g it ifs, e, h => by
    unfold chkF at h; split at h <;> first | (cases h; done) | skip
    obtain ⟨h1, h5⟩ := b2 h
    obtain ⟨h1, h4⟩ := b2 h1
    obtain ⟨h1, h3⟩ := b2 h1
    obtain ⟨h1, h2⟩ := b2 h1
    obtain ⟨h3, h6⟩ := b2 h3
    obtain ⟨h2, h7⟩ := b2 h2
    exact cvF (f_lc (tif := tIff Φ NoX ifs) (te := tE Φ NoX i) G h1 (sndI G it _ _ h2 h7) (foldI h2) h3 h6 (fun X' hw G' => by have := sndIf G' ifs _ h4; rw [hw] at this; exact this) (fun X' hw G' => by have := (sndE G' i _ h5).1; rw [hw] at this; exact this)) fun ds L Q q => by unfold tF semF at q; exact q
  | .lc2 own own1 i g it ifs g1 it1 ifs1, e, h => by
    unfold chkF at h; split at h <;> first | (cases h; done) | skip
    obtain ⟨h1, h9⟩ := b2 h
    obtain ⟨h1, h8⟩ := b2 h1
    obtain ⟨h1, h7⟩ := b2 h1
    obtain ⟨h1, h6⟩ := b2 h1
    obtain ⟨h1, h5⟩ := b2 h1
    obtain ⟨h1, h4⟩ := b2 h1
    obtain ⟨h1, h3⟩ := b2 h1
    obtain ⟨h1, h2⟩ := b2 h1
    obtain ⟨h4, h4'⟩ := b2 h4
    obtain ⟨h7, h7'⟩ := b2 h7
    obtain ⟨h3, h3'⟩ := b2 h3
    obtain ⟨h6, h6'⟩ := b2 h6
    exact cvF (f_lc2 (ti1 := tI Φ NoX it1) (tif := tIff Φ NoX ifs) (tif1 := tIff Φ NoX ifs1) (te := tE Φ NoX i) G h1 h2 (sndI G it _ _ h3 h3') (foldI h3) (fun env x => foldI h6 (env := env) x) h4 h4' h7 h7' (fun X' hw G' => by have := sndIf G' ifs _ h5; rw [hw] at this; exact this) (fun X' hw G' => by have := sndI G' it1 _ _ h6 h6'; rw [hw] at this; exact this) (fun X' hw G' => by have := sndIf G' ifs1 _ h8; rw [hw] at this; exact this) (fun X' hw G' => by have := (sndE G' i _ h9).1; rw [hw] at this; exact this)) fun ds L Q q => by unfold tF semF at q; exact q
end
end
end Nr

/-! Statements: rules over data. -/
namespace Nr
open PySem PySem.Spec PyProof.Rows L2
section
variable {env : Env} {x y z : Str} {px py pz pt pt2 : Pos} {kt k2 : Nat} {a b c : Expr}
theorem kind_blk (kf : env.scope.kind = .function) : env.blockKind = .function := by unfold Env.blockKind; rw [kf]; rfl
theorem sw2 (kf : env.scope.kind = .function) (hx : env.scope.names.lookup x = some .local) (hy : env.scope.names.lookup y = some .local) (hl : (py.line == px.line) = true) (hxy : (x == y) = false) (hs : ([a, b].all fun e => !starE e) = true)
    (hf : [a, b].all (foldedForSure 8) = false) (hc : [a, b].all (constantsAlone 8) = false) : swappedStores [.Tuple [.Name x px, .Name y py] kt pt] (.Tuple [a, b] k2 pt2) env = pure (some [x, y]) := by
  have hb := kind_blk kf
  have ex : env.kindOf x = some .local := hx
  have ey : env.kindOf y = some .local := hy
  have hd : [x, y].eraseDups.length = 2 := by
    have hxy' : (y == x) = false := by
      cases e : (y == x) with
      | false => rfl
      | true => have := eq_of_beq e; subst this; simp at hxy
    simp [List.eraseDups_cons, hxy']
  unfold swappedStores
  simp only [hb, ex, ey, hl, hf, hc, Expr.pos, List.filterMap_cons, List.filterMap_nil, List.head?_cons, Option.map_some, Option.getD_some, beq_self_eq_true, Bool.and_self, if_true, List.length_cons, List.length_nil, hd]
  simp only [List.all_cons, List.all_nil, Bool.and_true, Bool.and_eq_true] at hs
  rw [if_neg (by decide)]
  split
  · rename_i h
    simp only [List.any_cons, List.any_nil, Bool.or_false, Bool.or_eq_true] at h
    rcases h with h | h
    · split at h
      · exact absurd hs.1 (by simp [starE])
      · cases h
    · split at h
      · exact absurd hs.2 (by simp [starE])
      · cases h
  · rfl
theorem sw3 (kf : env.scope.kind = .function) (hx : env.scope.names.lookup x = some .local) (hy : env.scope.names.lookup y = some .local) (hz : env.scope.names.lookup z = some .local) (hl : (py.line == px.line) = true) (hl2 : (pz.line == px.line) = true) (hd : [x, y, z].eraseDups.length = 3) (hs : ([a, b, c].all fun e => !starE e) = true)
    (hf : [a, b, c].all (foldedForSure 8) = false) (hc : [a, b, c].all (constantsAlone 8) = false) : swappedStores [.Tuple [.Name x px, .Name y py, .Name z pz] kt pt] (.Tuple [a, b, c] k2 pt2) env = pure (some [x, y, z]) := by
  have hb := kind_blk kf
  have ex : env.kindOf x = some .local := hx
  have ey : env.kindOf y = some .local := hy
  have ez : env.kindOf z = some .local := hz
  unfold swappedStores
  simp only [hb, ex, ey, ez, hl, hl2, hf, hc, Expr.pos, List.filterMap_cons, List.filterMap_nil, List.head?_cons, Option.map_some, Option.getD_some, beq_self_eq_true, Bool.and_self, if_true, List.length_cons, List.length_nil, hd]
  simp only [List.all_cons, List.all_nil, Bool.and_true, Bool.and_eq_true] at hs
  rw [if_neg (by decide)]
  split
  · rename_i h
    simp only [List.any_cons, List.any_nil, Bool.or_false, Bool.or_eq_true] at h
    rcases h with h | h | h
    · split at h
      · exact absurd hs.1 (by simp [starE])
      · cases h
    · split at h
      · exact absurd hs.2.1 (by simp [starE])
      · cases h
    · split at h
      · exact absurd hs.2.2 (by simp [starE])
      · cases h
  · rfl
/-- a pair of constants: stored plainly -/
theorem swF2 (hf : [a, b].all (foldedForSure 8) = true) (hs : ([a, b].all fun e => !starE e) = true) {t1 t2 : Expr} : swappedStores [.Tuple [t1, t2] kt pt] (.Tuple [a, b] k2 pt2) env = pure none := by
  unfold swappedStores
  simp only [hf, if_true]
  repeat' split
  all_goals first | rfl | (simp; done)
end
/-! ### a statement over data -/
structure Out (W : Wd) (B : Option En) (m : Nb) (L : Hl) (H : Hp) (N : DN) (D : Ends) : Prop where
  nx : ∀ ds' L' m' σ' H', N.nx ds' L' → Step m L H m' L' H' → Sit W B m' L' ds' σ' H' → D.nx σ' H'
  bk : ∀ ds' L' m' σ' H', N.bk ds' L' → Step m L H m' L' H' → Sit W B m' L' ds' σ' H' → D.bk σ' H'
  ct : ∀ ds' L' m' σ' H', N.ct ds' L' → Step m L H m' L' H' → Sit W B m' L' ds' σ' H' → D.ct σ' H'
  rt : ∀ d L' v m' H', N.rt d L' → Step m L H m' L' H' → RepL W m' L' H' → RepV W m' L' H' v d → D.rt v H'
theorem Out.step {W : Wd} {B : Option En} {m m1 : Nb} {L L1 : Hl} {H H1 : Hp} {N : DN} {D : Ends} (o : Out W B m L H N D) (st : Step m L H m1 L1 H1) : Out W B m1 L1 H1 N D :=
  ⟨fun ds' L' m' σ' H' n s' S => o.nx ds' L' m' σ' H' n (st.trans s') S, fun ds' L' m' σ' H' n s' S => o.bk ds' L' m' σ' H' n (st.trans s') S, fun ds' L' m' σ' H' n s' S => o.ct ds' L' m' σ' H' n (st.trans s') S, fun d L' v m' H' n s' rl r => o.rt d L' v m' H' n (st.trans s') rl r⟩
abbrev TDn := DN → Ds → Hl → Prop
def lS (W : Wd) (B : Option En) (t : TDn) : TS := fun D σ H => ∃ (m : Nb) (L : Hl) (ds : Ds) (N : DN), Sit W B m L ds σ H ∧ t N ds L ∧ Out W B m L H N D
abbrev DS (X : Cx) (W : Wd) (B : Option En) (st : Stmt) (t : TDn) : Prop := PS X st (lS W B t)
abbrev DSs (X : Cx) (W : Wd) (B : Option En) (st : List Stmt) (t : TDn) : Prop := PSs X st (lS W B t)
section
variable {X : Cx} {W : Wd} {B : Option En} {st : Stmt} {sts : List Stmt} {e tg : Expr} {pos : Pos}
theorem psI {t t' : TS} (h : PS X st t) (c : ∀ D σ H, t' D σ H → t D σ H) : PS X st t' := ⟨fun pins s σ H D I q => h.run pins s σ H D I (c D σ H q)⟩
theorem pssI {t t' : TS} (h : PSs X sts t) (c : ∀ D σ H, t' D σ H → t D σ H) : PSs X sts t' := ⟨fun pins s σ H D I q => h.run pins s σ H D I (c D σ H q)⟩
theorem cvS {t t' : TDn} (h : DS X W B st t) (c : ∀ N ds L, t' N ds L → t N ds L) : DS X W B st t' := psI h fun D σ H ⟨m, L, ds, N, S, q, o⟩ => ⟨m, L, ds, N, S, c N ds L q, o⟩
theorem cvSs {t t' : TDn} (h : DSs X W B sts t) (c : ∀ N ds L, t' N ds L → t N ds L) : DSs X W B sts t' := pssI h fun D σ H ⟨m, L, ds, N, S, q, o⟩ => ⟨m, L, ds, N, S, c N ds L q, o⟩
theorem s_pass : DS X W B (.Pass pos) (fun N ds L => N.nx ds L) := psI ps_pass fun D σ H ⟨m, L, ds, N, S, q, o⟩ => o.nx ds L m σ H q Step.refl S
theorem s_brk : DS X W B (.Break pos) (fun N ds L => N.bk ds L) := psI ps_break fun D σ H ⟨m, L, ds, N, S, q, o⟩ => o.bk ds L m σ H q Step.refl S
theorem s_cont : DS X W B (.Continue pos) (fun N ds L => N.ct ds L) := psI ps_continue fun D σ H ⟨m, L, ds, N, S, q, o⟩ => o.ct ds L m σ H q Step.refl S
theorem s_nil : DSs X W B [] (fun N ds L => N.nx ds L) := pssI pss_nil fun D σ H ⟨m, L, ds, N, S, q, o⟩ => o.nx ds L m σ H q Step.refl S
theorem s_cons {t u : TDn} (h : DS X W B st t) (hr : DSs X W B sts u) : DSs X W B (st :: sts) (fun N ds L => t { N with nx := u N } ds L) := pssI (pss_cons h hr) fun D σ H ⟨m, L, ds, N, S, q, o⟩ =>
  ⟨m, L, ds, _, S, q, ⟨fun ds' L' m' σ' H' n s' S' => ⟨m', L', ds', N, S', n, o.step s'⟩, o.bk, o.ct, o.rt⟩⟩
theorem s_ret {t : TD} (h : DE X W B e t) : DS X W B (.Return (some e) pos) (fun N ds L => t ds L N.rt) := psI (ps_ret h) fun D σ H ⟨m, L, ds, N, S, q, o⟩ => ⟨m, L, ds, _, S, q, fun d L' v m' H' n st rl r => o.rt d L' v m' H' n st rl r⟩
theorem s_ret0 : DS X W B (.Return none pos) (fun N ds L => N.rt .non L) := psI ps_retN fun D σ H ⟨m, L, ds, N, S, q, o⟩ => o.rt .non L .non m H q Step.refl S.rl .non
theorem s_expr {t : TD} (h : DE X W B e t) (hs : swapsWith e none pos.line X.env = pure false) : DS X W B (.Expr e pos) (fun N ds L => t ds L fun _ L1 => N.nx ds L1) := psI (ps_expr h hs) fun D σ H ⟨m, L, ds, N, S, q, o⟩ =>
  ⟨m, L, ds, _, S, q, fun d L' v m' H' n st rl r => o.nx ds L' m' σ H' n st (S.nx st rl)⟩
theorem s_if {a b : List Stmt} {t : TD} {u v : TDn} (hc : DT X W B e t) (ha : DSs X W B a u) (hb : DSs X W B b v) : DS X W B (.If e a b pos) (fun N ds L => t ds L fun x L1 => truthK L1 x fun k => if k = true then u N ds L1 else v N ds L1) :=
  psI (ps_if hc ha hb) fun D σ H ⟨m, L, ds, N, S, q, o⟩ => ⟨m, L, ds, _, S, q, fun d L' m' H' q' st rl => by
    obtain ⟨k, e, q'⟩ := q'
    refine ⟨k, e, ?_⟩
    cases k with
    | true => exact ⟨m', L', ds, N, S.nx st rl, q', o.step st⟩
    | false => exact ⟨m', L', ds, N, S.nx st rl, q', o.step st⟩⟩
/-- a store -/
theorem asg_of {t : TD} {sl : List Nat} {g : D → Ds → (Ds → Prop) → Prop} {D : Ends} {σ : _root_.L2.St} {H : Hp} (h : lS W B (fun N ds L => t ds L fun d L1 => g d ds fun ds1 => N.nx ds1 L1) D σ H) : tAsg (lE W B t) (lG W B sl g) D σ H := by
  obtain ⟨m, L, ds, N, S, q, o⟩ := h
  exact ⟨m, L, ds, _, S, q, fun d L' v m' H' q' st rl r => ⟨m', L', ds, d, _, S.nx st rl, r, q', fun ds' σ' n S' _ => o.nx ds' L' m' σ' H' n st S'⟩⟩
theorem s_asg {t : TD} {sl : List Nat} {g : D → Ds → (Ds → Prop) → Prop} (h : DE X W B e t) (hg : PG X tg (lG W B sl g)) (hs : swapsWithSole [tg] e pos.line X.env = pure false) (hw : swappedStores [tg] e X.env = pure none) (h1 : (assignEach [tg] X.env).map (·.2) = [assign tg X.env]) :
    DS X W B (.Assign [tg] e pos) (fun N ds L => t ds L fun d L1 => g d ds fun ds1 => N.nx ds1 L1) := psI (ps_asg h hg hs hw h1) fun D σ H h => asg_of h
theorem s_seti {o i : Expr} {p : Pos} {to ti te : TD} (hsl : isSlice i = false) (he : DE X W B e te) (ho : DE X W B o to) (hi : DE X W B i ti) (hs : swapsWithSole [.Subscript o i p] e pos.line X.env = pure false) (hw : swappedStores [.Subscript o i p] e X.env = pure none) :
    DS X W B (.Assign [.Subscript o i p] e pos) (fun N ds L => te ds L fun v L1 => to ds L1 fun x L2 => ti ds L2 fun k L3 => setK L3 x k v fun L4 => N.nx ds L4) :=
  psI (ps_asg he (pg_sub ho hi set_list (by intro v; cases i <;> first | rfl | cases hsl)) hs hw rfl) fun D σ H ⟨m, L, ds, N, S, q, out⟩ =>
    ⟨m, L, ds, _, S, q, fun v L1 vv m1 H1 q1 st1 rl1 r1 => ⟨m1, L1, ds, _, S.nx st1 rl1, q1, fun x L2 vx m2 H2 q2 st2 rl2 r2 => ⟨m2, L2, ds, _, S.nx (st1.trans st2) rl2, q2, fun k L3 vk m3 H3 q3 st3 rl3 r3 => by
      unfold setK at q3
      split at q3
      · rename_i n kk
        obtain ⟨xs, j, e1, e2, q4⟩ := q3
        obtain ⟨vs, rfl, h1, h2⟩ := obj_lst rl3 (r2.step st3) e1
        cases r3
        obtain ⟨st4, rl4⟩ := set_lst rl3 e1 (h2.set ((r1.step st2).step st3) j)
        exact ⟨_, vs, kk, j, rfl, rfl, h1, by rw [h2.length]; exact e2, out.nx ds _ m3 σ _ q4 (((st1.trans st2).trans st3).trans st4) (S.nx (((st1.trans st2).trans st3).trans st4) rl4)⟩
      · exact q3.elim⟩⟩⟩
theorem s_aug {i : Nat} {x : Str} {p : Pos} {te : TD} (hN : X.N.Nodup) (hi : X.N[i]? = some x) (hx : L2.Loc X.env.scope x) (hf : X.fn x = true ∨ X.env.scope.names.lookup x = some .local) (he : DE X W B e te) :
    DS X W B (.AugAssign (.Name x p) .Add e pos) (fun N ds L => ∃ d, ds[i]? = some (some d) ∧ te ds L fun y L1 => (match d, y with
    | .int a, .int b => N.nx (ds.set i (some (.int (a + b)))) L1
    | _, _ => False)) := psI (ps_aug hN hi hx he ip_add hf) fun D σ H ⟨m, L, ds, N, S, ⟨d, hd, q⟩, out⟩ => by
  obtain ⟨v, hv, r⟩ := S.rs i d hd
  refine ⟨v, hv, m, L, ds, _, S, q, fun y L1 u m1 H1 q1 st1 rl1 r1 => ?_⟩
  split at q1
  · rename_i a b
    cases r
    cases r1
    exact ⟨a, b, rfl, rfl, out.nx _ L1 m1 _ H1 q1 st1 ((S.nx st1 rl1).set (.int _))⟩
  · exact q1.elim
theorem s_while {t : TD} {sts : List Stmt} {u : TDn} (hp : PassesOwn (model X.prog X.w) X.A X.env X.xe) (hc : DT X W B e t) (hb : DSs X W B sts u) :
    DS X W B (.While e sts [] pos) (fun N ds L => ∃ n, whileR (fun ds L k => t ds L fun x L1 => truthK L1 x fun b => k b L1) (fun M ds L => u M ds L) N n ds L) :=
  psI (ps_while hp hc hb) fun D σ H ⟨m, L, ds, N, S, ⟨n, q⟩, out⟩ => by
    refine ⟨fun n σ' H' => ∃ m' L' ds', Step m L H m' L' H' ∧ Sit W B m' L' ds' σ' H' ∧ whileR (fun ds L k => t ds L fun x L1 => truthK L1 x fun b => k b L1) (fun M ds L => u M ds L) N n ds' L', ⟨n, m, L, ds, Step.refl, S, q⟩, ?_⟩
    rintro n σ' H' ⟨m', L', ds', st, S', q⟩
    cases n with
    | zero => exact q.elim
    | succ n =>
      refine ⟨m', L', ds', _, S', q, fun d L1 m1 H1 q1 st1 rl1 => ?_⟩
      obtain ⟨b, e1, q1⟩ := q1
      refine ⟨b, e1, ?_⟩
      cases b with
      | false => exact out.nx ds' L1 m1 σ' H1 q1 (st.trans st1) (S'.nx st1 rl1)
      | true =>
        refine ⟨fun σ2 H2 => ∃ m2 L2 ds2, Step m L H m2 L2 H2 ∧ Sit W B m2 L2 ds2 σ2 H2 ∧ whileR (fun ds L k => t ds L fun x L1 => truthK L1 x fun b => k b L1) (fun M ds L => u M ds L) N n ds2 L2, fun σ2 H2 ⟨m2, L2, ds2, z⟩ => ⟨n, Nat.lt_succ_self n, m2, L2, ds2, z⟩, m1, L1, ds', _, S'.nx st1 rl1, q1, ⟨?_, ?_, ?_, ?_⟩⟩
        · exact fun ds2 L2 m2 σ2 H2 n2 st2 S2 => ⟨m2, L2, ds2, (st.trans st1).trans st2, S2, n2⟩
        · exact fun ds2 L2 m2 σ2 H2 n2 st2 S2 => out.nx ds2 L2 m2 σ2 H2 n2 ((st.trans st1).trans st2) S2
        · exact fun ds2 L2 m2 σ2 H2 n2 st2 S2 => ⟨m2, L2, ds2, (st.trans st1).trans st2, S2, n2⟩
        · exact fun d L2 v m2 H2 n2 st2 rl2 r2 => out.rt d L2 v m2 H2 n2 ((st.trans st1).trans st2) rl2 r2
theorem s_for {ti : TDi} {it : Expr} {sl : List Nat} {g : D → Ds → (Ds → Prop) → Prop} {sts : List Stmt} {u : TDn} (hp : PassesOwn (model X.prog X.w) X.A X.env X.xe) (hc : X.calm = true) (hi : DI X W B tg it ti) (hg : PG X tg (lG W B sl g)) (hb : DSs X W B sts u) (hs : ∀ x, foldedSetIterable it X.env x = pure x) :
    DS X W B (.For tg it sts [] pos) (fun N ds L => ti ds L fun s L1 => forR s (fun x M ds L => g x ds fun ds1 => u M ds1 L) N s.items ds L1) :=
  psI (ps_for hp hc hi hg hb hs) fun D σ H ⟨m, L, ds, N, S, q, out⟩ => by
    refine ⟨m, L, ds, _, S, q, fun s L1 m1 H1 J q1 st1 rl1 wk => ?_⟩
    refine ⟨fun i n σ' H' => ∃ m' L' ds', n = s.items.length - i ∧ i ≤ s.items.length ∧ Step m1 L1 H1 m' L' H' ∧ Sit W B m' L' ds' σ' H' ∧ forR s (fun x M ds L => g x ds fun ds1 => u M ds1 L) N (s.items.drop i) ds' L', ⟨_, m1, L1, ds, rfl, Nat.zero_le _, Step.refl, S.nx st1 rl1, by rw [List.drop_zero]; exact q1⟩, ?_⟩
    rintro i n σ' H' ⟨m', L', ds', rfl, hi, st, S', q⟩
    by_cases hlt : i < s.items.length
    · have e : s.items.drop i = s.items[i] :: s.items.drop (i + 1) := List.drop_eq_getElem_cons hlt
      rw [e] at q
      have hx : s.items[i]? = some s.items[i] := by simp [hlt]
      obtain ⟨ok, q⟩ := q
      obtain ⟨g1, g2⟩ := wk.go i _ m' L' H' hx st.wk S'.rl ok
      refine .inr ⟨g1, fun σ2 H2 => ∃ m2 L2 ds2, Step m1 L1 H1 m2 L2 H2 ∧ Sit W B m2 L2 ds2 σ2 H2 ∧ forR s (fun x M ds L => g x ds fun ds1 => u M ds1 L) N (s.items.drop (i + 1)) ds2 L2, fun σ2 H2 ⟨m2, L2, ds2, z1, z2, z3⟩ => ⟨_, ?_, m2, L2, ds2, rfl, hlt, z1, z2, z3⟩, fun x H2 y => ?_⟩
      · omega
      obtain ⟨nx, r⟩ := g2 x H2 y
      refine ⟨m', L', ds', _, _, S'.nx nx.st nx.rl, r, q, fun ds3 σ3 q3 S3 _ => ⟨m', L', ds3, _, S3, q3, ⟨?_, ?_, ?_, ?_⟩⟩⟩
      · exact fun ds2 L2 m2 σ2 H2 n2 st2 S2 => ⟨m2, L2, ds2, (st.trans nx.st).trans st2, S2, n2⟩
      · exact fun ds2 L2 m2 σ2 H2 n2 st2 S2 => out.nx ds2 L2 m2 σ2 H2 n2 (((st1.trans st).trans nx.st).trans st2) S2
      · exact fun ds2 L2 m2 σ2 H2 n2 st2 S2 => ⟨m2, L2, ds2, (st.trans nx.st).trans st2, S2, n2⟩
      · exact fun d L2 v m2 H2 n2 st2 rl2 r2 => out.rt d L2 v m2 H2 n2 (((st1.trans st).trans nx.st).trans st2) rl2 r2
    · have e : i = s.items.length := by omega
      subst e
      rw [List.drop_length] at q
      exact .inl ⟨wk.stop m' L' H' st.wk S'.rl q.1, out.nx ds' L' m' σ' H' q.2 (st1.trans st) S'⟩
end
end Nr

/-! Statements: the check, the recursion. -/
namespace Nr
open PySem PySem.Spec PyProof.Rows L2
def swT (Γ : Gm) (y : Str) (py : Pos) (scope : Scope) (epos : Pos) : Bool := decide (Γ.sc.names.lookup y = some .local) && (py.line == epos.line) && !(scope.names.any fun (n, k) => n == y && (k == .local || k == .cell))
def isComp : Expr → Bool
  | .ListComp _ _ _ _ => true
  | .SetComp _ _ _ _ => true
  | .DictComp _ _ _ _ _ => true
  | _ => false
def isCallE : Expr → Bool
  | .Call _ _ _ _ => true
  | _ => false
def isTupE : Expr → Bool
  | .Tuple _ _ _ => true
  | _ => false
def chkAsg (Γ : Gm) (g : IG) (e : IE) (tg e' : Expr) : Bool :=
  chkG Γ g tg && chkE Γ e e' && (match tg with
    | .Name y py => (match e' with
      | .ListComp _ _ scope epos => if swT Γ y py scope epos = true then (match g with
          | .n i => decide (Γ.N[i]? = some y)
          | _ => false) else true
      | e' => !isComp e')
    | .Tuple ts _ _ => (match e' with
      | .Tuple vs _ _ => decide (ts.length = 2) && decide (vs.length = 2) && vs.all (foldedForSure 8) && vs.all (fun e => !starE e)
      | _ => true)
    | _ => false)
def chkPar (Γ : Gm) : List Nat → IEs → Expr → Expr → Bool
  | [i, j], es, .Tuple [.Name x px, .Name y py] _ _, .Tuple [a, b] _ _ => chkEs Γ es [a, b] && (decide (Γ.N[i]? = some x) && decide (Γ.N[j]? = some y) && decide (Γ.sc.names.lookup x = some .local) && decide (Γ.sc.names.lookup y = some .local)) && ((py.line == px.line) && !(x == y) && [a, b].all (fun e => !starE e) && !([a, b].all (foldedForSure 8)) && !([a, b].all (constantsAlone 8)))
  | [i, j, l], es, .Tuple [.Name x px, .Name y py, .Name z pz] _ _, .Tuple [a, b, c] _ _ => chkEs Γ es [a, b, c] && (decide (Γ.N[i]? = some x) && decide (Γ.N[j]? = some y) && decide (Γ.N[l]? = some z) && decide (Γ.sc.names.lookup x = some .local) && decide (Γ.sc.names.lookup y = some .local) && decide (Γ.sc.names.lookup z = some .local)) &&
      ((py.line == px.line) && (pz.line == px.line) && decide ([x, y, z].eraseDups.length = 3) && decide (i ≠ j) && decide (i ≠ l) && decide (j ≠ l) && [a, b, c].all (fun e => !starE e) && !([a, b, c].all (foldedForSure 8)) && !([a, b, c].all (constantsAlone 8)))
  | _, _, _, _ => false
mutual
def chkS (Γ : Gm) : IS → Stmt → Bool
  | .pass, st => (match st with
    | .Pass _ => true
    | _ => false)
  | .expr e, st => (match st with
    | .Expr e' _ => isCallE e' && chkE Γ e e'
    | _ => false)
  | .asg g e, st => (match st with
    | .Assign [tg] e' _ => chkAsg Γ g e tg e'
    | _ => false)
  | .par is es, st => (match st with
    | .Assign [tg] e' _ => chkPar Γ is es tg e'
    | _ => false)
  | .seti o i e, st => (match st with
    | .Assign [.Subscript o' i' _] e' _ => chkE Γ o o' && chkE Γ i i' && chkE Γ e e' && !isSlice i'
    | _ => false)
  | .aug i e, st => (match st with
    | .AugAssign (.Name x _) .Add e' _ => Γ.loc i x && chkE Γ e e'
    | _ => false)
  | .ret e, st => (match st with
    | .Return (some e') _ => chkE Γ e e'
    | _ => false)
  | .ret0, st => (match st with
    | .Return none _ => true
    | _ => false)
  | .ite c a b, st => (match st with
    | .If c' a' b' _ => chkE Γ c c' && chkSs Γ a a' && chkSs Γ b b'
    | _ => false)
  | .for_ g it b, st => (match st with
    | .For tg it' b' [] _ => chkG Γ g tg && (chkI Γ it it' && tgOk it tg) && chkSs Γ b b'
    | _ => false)
  | .while_ c b, st => (match st with
    | .While c' b' [] _ => chkE Γ c c' && chkSs Γ b b'
    | _ => false)
  | .brk, st => (match st with
    | .Break _ => true
    | _ => false)
  | .cont, st => (match st with
    | .Continue _ => true
    | _ => false)
  | .raise c, st => (match st with
    | .Raise (some (.Call (.Name x _) [.Constant (.str _) _ _] [] _)) none _ => Γ.gl x && decide (c = x) && Γ.exs.contains c
    | _ => false)
  | .try_ _ _ _ _, _ => false
def chkSs (Γ : Gm) : ISs → List Stmt → Bool
  | .nil, sts => sts.isEmpty
  | .cons s r, sts => (match sts with
    | st :: sts => chkS Γ s st && chkSs Γ r sts
    | [] => false)
end
/-- where statements stand -/
structure GoodS (Φ : Phi) (B : Option En) (E : XS) (k : Nat) (Γ : Gm) (X : Cx) : Prop where
  g : Good Φ B E k Γ X
  pass : PassesOwn (model X.prog X.w) X.A X.env X.xe
  kind : X.env.scope.kind = .function
  exs : ∀ x ∈ Γ.exs, ∃ C, X.mg x = some (.ref C) ∧ PySem.W.excIn X.K C He.veBase "ValueError.__new__" = true ∧ PySem.W.keepIn X.K (.ref C) = true ∧ Raises X (.ref C)
section
variable {Φ : Phi} {B : Option En} {E : XS} {k : Nat} {Γ : Gm} {X : Cx} {W : Wd} {e tg elt : Expr} {es : List Expr} {pos epos : Pos} {scope : Scope}
theorem sw_no {l : Nat} (h : isComp e = false) : swapsWith e (some tg) l X.env = pure false := by
  cases e <;> first | rfl | cases h
theorem sw_noN {l : Nat} (h : isComp e = false) : swapsWith e none l X.env = pure false := by
  cases e <;> first | rfl | cases h
theorem sw_false {gs : List Comprehension} {py : Pos} {y : Str} {l : Nat} (hk : X.env.scope.kind = .function) (hs : X.env.scope = Γ.sc) (h : swT Γ y py scope epos = false) : swapsWith (.ListComp elt gs scope epos) (some (.Name y py)) l X.env = pure false := by
  have hb := kind_blk hk
  unfold swapsWith
  unfold swT at h
  rw [← hs] at h
  have e : (X.env.kindOf y == some .local) = decide (X.env.scope.names.lookup y = some .local) := by
    show (List.lookup y X.env.scope.names == some .local) = _
    cases q : List.lookup y X.env.scope.names with
    | none => rfl
    | some z => cases z <;> simp
  simp only [hb, e, Expr.pos, beq_self_eq_true, Bool.true_and]
  exact congrArg pure h
theorem sw_tup {e : Expr} {ts : List Expr} {kt : Nat} {pt : Pos} {l : Nat} : swapsWith e (some (.Tuple ts kt pt)) l X.env = pure false := by
  cases e <;> rfl
theorem sw_sub {o i e : Expr} {p : Pos} {l : Nat} : swapsWithSole [.Subscript o i p] e l X.env = pure false := by
  show swapsWith e (some (.Subscript o i p)) l X.env = pure false
  cases e <;> rfl
theorem sw_sub2 {o i e : Expr} {p : Pos} : swappedStores [.Subscript o i p] e X.env = pure none := by
  cases e <;> rfl
/-- a new list, as a value -/
theorem frz_imp {t : TDl} {σ : _root_.L2.St} {H : Hp} {Q : VK} (h : lE W B (fun ds L Q => t ds L fun xs L1 => Q (.lst xs) L1) σ H Q) : lF W B t σ H Q := by
  obtain ⟨m, L, ds, Qd, S, q, c⟩ := h
  exact ⟨m, L, ds, _, S, q, fun xs L' m' H' p q' n => c _ L' _ _ H' q' n.frz.1 n.frz.2.1 n.frz.2.2⟩
theorem newl_imp {t : TDl} {σ : _root_.L2.St} {H : Hp} {Q : VK} (h : lE W B (fun ds L Q => t ds L fun xs L1 => Q (.obj L1.length) (L1 ++ [.lst xs])) σ H Q) : lF W B t σ H Q := by
  obtain ⟨m, L, ds, Qd, S, q, c⟩ := h
  exact ⟨m, L, ds, _, S, q, fun xs L' m' H' p q' n => c _ _ _ _ H' q' n.num.1 n.num.2.1 n.num.2.2⟩
theorem imp_of {c : IE} {σ : _root_.L2.St} {H : Hp} {Q : VK} {gs : List Comprehension} (hc : chkE Γ c (.ListComp elt gs scope epos) = true) : ∃ f, chkF Γ f (.ListComp elt gs scope epos) = true ∧ ∀ {σ : _root_.L2.St} {H : Hp} {Q : VK}, lE (wd X) B (tE Φ E c) σ H Q → lF (wd X) B (tF Φ E f) σ H Q := by
  cases c <;> first | (simp [chkE] at hc; done) | skip
  · rename_i f
    refine ⟨f, by simpa only [chkE] using hc, fun {σ H Q} h => frz_imp ?_⟩
    obtain ⟨m, L, ds, Qd, S, q, c⟩ := h
    exact ⟨m, L, ds, Qd, S, by unfold tE semE at q; exact q, c⟩
  · rename_i f
    refine ⟨f, by simpa only [chkE] using hc, fun {σ H Q} h => newl_imp ?_⟩
    obtain ⟨m, L, ds, Qd, S, q, c⟩ := h
    exact ⟨m, L, ds, Qd, S, by unfold tE semE at q; exact q, c⟩
  · rename_i f
    cases f <;> simp [chkE, chkD] at hc
/-- name = [..] on one line -/
theorem setLc {f : IF} {i : Nat} {y : Str} {py spos : Pos} {gs : List Comprehension} (G : GoodS Φ B E k Γ X) (hy : Γ.N[i]? = some y) (hs : swT Γ y py scope epos = true) (h : chkF Γ f (.ListComp elt gs scope epos) = true) :
    PS X (.Assign [.Name y py] (.ListComp elt gs scope epos) spos) (tAsg (lF (wd X) B (tF Φ E f)) (gName i)) := by
  have G' := G.g
  unfold swT at hs
  simp only [Bool.and_eq_true] at hs
  obtain ⟨⟨s1, s2⟩, s3⟩ := hs
  have s3 := nb s3
  have hl : X.env.scope.names.lookup y = some .local := by rw [G'.sc]; exact of_decide_eq_true s1
  have hyN : X.N[i]? = some y := by rw [G'.N]; exact hy
  have hsw : ∀ {gs : List Comprehension}, swapsWith (.ListComp elt gs scope epos) (some (.Name y py)) spos.line X.env = pure true := fun {gs} => sw_true G.kind hl s2 s3
  cases f <;> first | (simp [chkF] at h; done) | skip
  · rename_i own i' g it ifs
    unfold chkF at h
    split at h <;> first | (cases h; done) | skip
    rename_i e' tg it' ifs' scope' pos' heq
    cases heq
    obtain ⟨h1, h5⟩ := b2 h
    obtain ⟨h1, h4⟩ := b2 h1
    obtain ⟨h1, h3⟩ := b2 h1
    obtain ⟨h1, h2⟩ := b2 h1
    obtain ⟨h3, h6⟩ := b2 h3
    obtain ⟨h2, h7⟩ := b2 h2
    have ok : BlkOk X.N X.env.scope scope (own.map fun i => (Γ.N.getD i Str.empty, i)) := by rw [G'.N, G'.sc]; exact blkOk_by h1
    refine psI (ps_setLc (g := lG (wd X) none g.slots (semG g)) (tt := lIf (wd X) none (tIff Φ NoX ifs)) (te := lE (wd X) none (tE Φ NoX i')) G'.calm G'.ndX hyN hl hsw (sndI G' it _ _ h2 h7) ok (fun s H C cl fp => g_ok (G'.blk s H C cl fp) g tg h3) (fun s H C cl fp => sndIf (G'.blk s H C cl fp) ifs _ h4) (fun s H C cl fp => (sndE (G'.blk s H C cl fp) i' _ h5).1) (foldI h2)) fun D σ H q => ?_
    rw [own_map]
    refine lc_of (fun i hi => by simpa using List.all_eq_true.mp h6 i hi) ?_
    obtain ⟨m, L, ds, Qd, S, q, c⟩ := q
    exact ⟨m, L, ds, Qd, S, by unfold tF semF at q; exact q, c⟩
  · rename_i own own1 i' g it ifs g1 it1 ifs1
    unfold chkF at h
    split at h <;> first | (cases h; done) | skip
    rename_i e' tg it' ifs' tg1 it1' ifs1' scope' pos' heq
    cases heq
    simp only [Bool.and_eq_true] at h
    obtain ⟨⟨⟨⟨⟨⟨⟨⟨h1, h2⟩, h3, h3'⟩, h4, h4'⟩, h5⟩, h6, h6'⟩, h7, h7'⟩, h8⟩, h9⟩ := h
    have ok : BlkOk X.N X.env.scope scope (own.map fun i => (Γ.N.getD i Str.empty, i)) := by rw [G'.N, G'.sc]; exact blkOk_by h1
    refine psI (ps_setLc2 (vs1 := own1) (g := lG (wd X) none g.slots (semG g)) (tt := lIf (wd X) none (tIff Φ NoX ifs)) (te := lE (wd X) none (tE Φ NoX i')) (wi1 := lI (wd X) none (tI Φ NoX it1)) (g1 := lG (wd X) none g1.slots (semG g1)) (tt1 := lIf (wd X) none (tIff Φ NoX ifs1)) G'.calm G'.ndX hyN hl hsw (sndI G' it _ _ h3 h3') ok (fun i hi => by rw [own_map]; simpa using List.all_eq_true.mp h2 i hi)
      (fun s H C cl fp => g_ok (G'.blk s H C cl fp) g tg h4) (fun s H C cl fp => sndIf (G'.blk s H C cl fp) ifs _ h5) (fun s H C cl fp => sndI (G'.blk s H C cl fp) it1 _ _ h6 h6') (fun s H C cl fp => g_ok (G'.blk s H C cl fp) g1 tg1 h7) (fun s H C cl fp => sndIf (G'.blk s H C cl fp) ifs1 _ h8) (fun s H C cl fp => (sndE (G'.blk s H C cl fp) i' _ h9).1) (foldI h3) (fun env x => foldI h6 (env := env) x)) fun D σ H q => ?_
    rw [own_map]
    refine lc2_of (fun i hi => by simpa using List.all_eq_true.mp h4' i hi) (fun i hi => by simpa using List.all_eq_true.mp h7' i hi) ?_
    obtain ⟨m, L, ds, Qd, S, q, c⟩ := q
    exact ⟨m, L, ds, Qd, S, by unfold tF semF at q; exact q, c⟩
theorem asg_all {g : IG} {c : IE} {tg e' : Expr} (G : GoodS Φ B E k Γ X) (h : chkAsg Γ g c tg e' = true) : DS X (wd X) B (.Assign [tg] e' pos) (fun N ds L => tE Φ E c ds L fun d L1 => semG g d ds fun ds1 => N.nx ds1 L1) := by
  unfold chkAsg at h
  simp only [Bool.and_eq_true] at h
  obtain ⟨⟨h1, h3⟩, h2⟩ := h
  have hg := g_ok (B := B) G.g g tg h1
  have he := (sndE G.g c e' h3).1
  cases tg <;> first | (cases h2; done) | skip
  · rename_i y py
    by_cases hc : ∃ elt gs scope epos, e' = .ListComp elt gs scope epos
    · obtain ⟨elt, gs, scope, epos, rfl⟩ := hc
      dsimp only at h2
      by_cases hs : swT Γ y py scope epos = true
      · rw [if_pos hs] at h2
        cases g <;> first | (cases h2; done) | skip
        rename_i i
        have hy : Γ.N[i]? = some y := of_decide_eq_true h2
        obtain ⟨f, hf, imp⟩ := imp_of (Φ := Φ) (B := B) (E := E) (X := X) (σ := []) (H := fun _ => none) (Q := fun _ _ => True) h3
        refine psI (setLc G hy hs hf) fun D σ H q => imp ?_
        obtain ⟨m, L, ds, N, S, q, o⟩ := q
        exact ⟨m, L, ds, _, S, q, fun d L' v m' H' q' st rl r => o.nx _ L' m' _ H' (by simpa [semG] using q') st ((S.nx st rl).set r)⟩
      · exact s_asg he hg (show swapsWith (.ListComp elt gs scope epos) (some (.Name y py)) pos.line X.env = pure false from sw_false G.kind G.g.sc (by simpa using hs)) rfl rfl
    · have hn : isComp e' = false := by
        cases e' <;> first | rfl | (cases h2; done) | exact absurd ⟨_, _, _, _, rfl⟩ hc
      refine s_asg he hg (show swapsWith e' (some (.Name y py)) pos.line X.env = pure false from sw_no hn) ?_ rfl
      cases e' <;> rfl
  · rename_i ts kt pt
    by_cases hc : ∃ vs kv pv, e' = .Tuple vs kv pv
    · obtain ⟨vs, kv, pv, rfl⟩ := hc
      simp only [Bool.and_eq_true] at h2
      obtain ⟨⟨⟨l1, l2⟩, l3⟩, l4⟩ := h2
      have l1 := of_decide_eq_true l1
      have l2 := of_decide_eq_true l2
      match ts, l1, vs, l2, h1, h3, hg, he, l3, l4 with
      | [t1, t2], _, [a, b], _, h1, h3, hg, he, l3, l4 => exact s_asg he hg (show swapsWith (.Tuple [a, b] kv pv) (some (.Tuple [t1, t2] kt pt)) pos.line X.env = pure false from sw_tup) (swF2 l3 l4) rfl
    · refine s_asg he hg (show swapsWith e' (some (.Tuple ts kt pt)) pos.line X.env = pure false from sw_tup) ?_ rfl
      cases e' <;> first | rfl | exact absurd ⟨_, _, _, rfl⟩ hc
theorem par_all {is : List Nat} {ir : IEs} {tg e' : Expr} (G : GoodS Φ B E k Γ X) (h : chkPar Γ is ir tg e' = true) : DS X (wd X) B (.Assign [tg] e' pos) (fun N ds L => tEs Φ E ir ds L fun xs L1 => xs.length = is.length ∧ N.nx (setsD is xs ds) L1) := by
  have hsc := G.g.sc
  have hN := G.g.N
  unfold chkPar at h
  split at h
  · rename_i i j x px y py kt pt a b k2 p2
    simp only [Bool.and_eq_true] at h
    obtain ⟨⟨he, ⟨⟨n1, n2⟩, n3⟩, n4⟩, ⟨⟨⟨⟨o1, o2⟩, o3⟩, o4⟩, o5⟩⟩ := h
    have n3 := of_decide_eq_true n3
    have n4 := of_decide_eq_true n4
    have n1 := of_decide_eq_true n1
    have n2 := of_decide_eq_true n2
    rw [← hsc] at n3 n4
    rw [← hN] at n1 n2
    have hij : i ≠ j := fun e => by
      subst e
      rw [n1] at n2
      cases n2
      simp at o2
    refine psI (ps_par G.g.calm G.g.ndX n1 n2 hij n3 n4 (sndEs G.g ir _ he) (sw2 G.kind n3 n4 o1 (nb o2) o3 (nb o4) (nb o5)) rfl) fun D σ H ⟨m, L, ds, N, S, q, o⟩ => ?_
    refine ⟨m, L, ds, _, S, q, fun xs L' vs m' H' q' st rl rs => ?_⟩
    · obtain ⟨hl, q'⟩ := q'
      match xs, hl with
      | [d1, d2], _ =>
        obtain ⟨v, u, rfl, r1, r2⟩ := two_of rs
        exact ⟨v, u, rfl, o.nx _ L' m' _ H' q' st (((S.nx st rl).set r1).set r2)⟩
  · rename_i i j l x px y py z pz kt pt a b c k2 p2
    simp only [Bool.and_eq_true] at h
    obtain ⟨⟨he, ⟨⟨⟨⟨n1, n2⟩, n5⟩, n3⟩, n4⟩, n6⟩, ⟨⟨⟨⟨⟨⟨⟨⟨o1, o2⟩, o3⟩, o4⟩, o5⟩, o6⟩, o7⟩, o8⟩, o9⟩⟩ := h
    have n3 := of_decide_eq_true n3
    have n4 := of_decide_eq_true n4
    have n6 := of_decide_eq_true n6
    have n1 := of_decide_eq_true n1
    have n2 := of_decide_eq_true n2
    have n5 := of_decide_eq_true n5
    rw [← hsc] at n3 n4 n6
    rw [← hN] at n1 n2 n5
    refine psI (ps_par3 G.g.calm G.g.ndX n1 n2 n5 (of_decide_eq_true o4) (of_decide_eq_true o5) (of_decide_eq_true o6) n3 n4 n6 (sndEs G.g ir _ he) (sw3 G.kind n3 n4 n6 o1 o2 (of_decide_eq_true o3) o7 (nb o8) (nb o9)) rfl) fun D σ H ⟨m, L, ds, N, S, q, o⟩ => ?_
    refine ⟨m, L, ds, _, S, q, fun xs L' vs m' H' q' st rl rs => ?_⟩
    · obtain ⟨hl, q'⟩ := q'
      match xs, hl with
      | [d1, d2, d3], _ =>
        cases rs with
        | cons r1 rs =>
          obtain ⟨v, u, rfl, r2, r3⟩ := two_of rs
          exact ⟨_, v, u, rfl, o.nx _ L' m' _ H' q' st ((((S.nx st rl).set r1).set r2).set r3)⟩
  · cases h
theorem raise_ok {c x : Str} {p p2 p3 : Pos} {m : Str} {j : Nat} (G : GoodS Φ B E k Γ X) (hx : Γ.gl x = true) (hc : c = x) (hm : Γ.exs.contains c = true) :
    DS X (wd X) B (.Raise (some (.Call (.Name x p) [.Constant (.str m) j p2] [] p3)) none pos) (fun _ ds L => E c ds L) := by
  subst hc
  obtain ⟨C, g1, g2, g3, g4⟩ := G.exs c (by simpa using hm)
  obtain ⟨f1, f2, f3⟩ := G.g.gl hx
  exact psI (ps_raise G.g.calm G.g.tk (pmk_own PySem.F.excBase_ValueError g2 g1 g3 g4 f1 f2)) fun D σ H ⟨m, L, ds, N, S, q, o⟩ => ⟨c, m, L, ds, ⟨C, g1, rfl⟩, rfl, S, q⟩
variable (sb : Str → Str → Bool)
mutual
theorem sndS (G : GoodS Φ B E k Γ X) : ∀ (ir : IS) (st : Stmt), chkS Γ ir st = true → DS X (wd X) B st (fun N ds L => semS Φ sb ir E N ds L)
  | .pass, st, h => by
    unfold chkS at h; split at h <;> first | (cases h; done) | skip
    exact cvS s_pass fun N ds L q => by unfold semS at q; exact q
  | .expr e, st, h => by
    unfold chkS at h; split at h <;> first | (cases h; done) | skip
    obtain ⟨h1, h2⟩ := b2 h
    refine cvS (s_expr (sndE G.g e _ h2).1 (sw_noN ?_)) fun N ds L q => by unfold semS at q; exact q
    rename_i e' _
    cases e' <;> first | rfl | cases h1
  | .asg g e, st, h => by
    unfold chkS at h; split at h <;> first | (cases h; done) | skip
    exact cvS (asg_all G h) fun N ds L q => by unfold semS at q; exact q
  | .par is es, st, h => by
    unfold chkS at h; split at h <;> first | (cases h; done) | skip
    exact cvS (par_all G h) fun N ds L q => by unfold semS at q; exact q
  | .seti o i e, st, h => by
    unfold chkS at h; split at h <;> first | (cases h; done) | skip
    obtain ⟨h1, h4⟩ := b2 h
    obtain ⟨h1, h3⟩ := b2 h1
    obtain ⟨h1, h2⟩ := b2 h1
    refine cvS (s_seti (nb h4) (sndE G.g e _ h3).1 (sndE G.g o _ h1).1 (sndE G.g i _ h2).1 sw_sub sw_sub2) fun N ds L q => by unfold semS at q; exact q
  | .aug i e, st, h => by
    unfold chkS at h; split at h <;> first | (cases h; done) | skip
    obtain ⟨h1, h2⟩ := b2 h
    obtain ⟨l1, l2, l3⟩ := G.g.loc h1
    exact cvS (s_aug G.g.ndX l1 l2 l3 (sndE G.g e _ h2).1) fun N ds L q => by unfold semS at q; exact q
  | .ret e, st, h => by
    unfold chkS at h; split at h <;> first | (cases h; done) | skip
    exact cvS (s_ret (sndE G.g e _ h).1) fun N ds L q => by unfold semS at q; exact q
  | .ret0, st, h => by
    unfold chkS at h; split at h <;> first | (cases h; done) | skip
    exact cvS s_ret0 fun N ds L q => by unfold semS at q; exact q
  | .ite c a b, st, h => by
    unfold chkS at h; split at h <;> first | (cases h; done) | skip
    obtain ⟨h1, h3⟩ := b2 h
    obtain ⟨h1, h2⟩ := b2 h1
    exact cvS (s_if (sndE G.g c _ h1).2 (sndSs G a _ h2) (sndSs G b _ h3)) fun N ds L q => by unfold semS at q; exact q
  | .for_ g it b, st, h => by
    unfold chkS at h; split at h <;> first | (cases h; done) | skip
    obtain ⟨h1, h3⟩ := b2 h
    obtain ⟨h1, h2⟩ := b2 h1
    obtain ⟨h2, h4⟩ := b2 h2
    exact cvS (s_for G.pass G.g.calm (sndI G.g it _ _ h2 h4) (g_ok G.g g _ h1) (sndSs G b _ h3) (foldI h2)) fun N ds L q => by unfold semS at q; exact q
  | .while_ c b, st, h => by
    unfold chkS at h; split at h <;> first | (cases h; done) | skip
    obtain ⟨h1, h2⟩ := b2 h
    exact cvS (s_while G.pass (sndE G.g c _ h1).2 (sndSs G b _ h2)) fun N ds L q => by unfold semS at q; exact q
  | .brk, st, h => by
    unfold chkS at h; split at h <;> first | (cases h; done) | skip
    exact cvS s_brk fun N ds L q => by unfold semS at q; exact q
  | .cont, st, h => by
    unfold chkS at h; split at h <;> first | (cases h; done) | skip
    exact cvS s_cont fun N ds L q => by unfold semS at q; exact q
  | .raise c, st, h => by
    unfold chkS at h; split at h <;> first | (cases h; done) | skip
    obtain ⟨h1, h3⟩ := b2 h
    obtain ⟨h1, h2⟩ := b2 h1
    exact cvS (raise_ok G h1 (of_decide_eq_true h2) h3) fun N ds L q => by unfold semS at q; exact q
  | .try_ _ _ _ _, st, h => by unfold chkS at h; cases h
theorem sndSs (G : GoodS Φ B E k Γ X) : ∀ (ir : ISs) (st : List Stmt), chkSs Γ ir st = true → DSs X (wd X) B st (fun N ds L => semSs Φ sb ir E N ds L)
  | .nil, st, h => by
    cases st with
    | nil => exact cvSs s_nil fun N ds L q => by unfold semSs at q; exact q
    | cons a b => simp [chkSs] at h
  | .cons s r, st, h => by
    cases st with
    | nil => simp [chkSs] at h
    | cons a b =>
      unfold chkSs at h
      obtain ⟨h1, h2⟩ := b2 h
      exact cvSs (s_cons (sndS G s a h1) (sndSs G r b h2)) fun N ds L q => by unfold semSs at q; exact q
end
end
end Nr

/-! What a def leaves; a def keeps its contract; a table of defs. -/
namespace Nr
open PySem PySem.Spec PyProof.Rows L2
/-! ### numbers below n -/
mutual
def below (n : Nat) : D → Bool
  | .obj i => decide (i < n)
  | .tup xs => belows n xs
  | .lst xs => belows n xs
  | .scr xs => belows n xs
  | .dct _ ks vs => belows n ks && belows n vs
  | _ => true
def belows (n : Nat) : List D → Bool
  | [] => true
  | x :: xs => below n x && belows n xs
end
mutual
theorem below_of_nonum {n : Nat} : ∀ {d : D}, nonum d = true → below n d = true
  | .obj _, h => by simp [nonum] at h
  | .tup xs, h => by rw [below]; exact belows_of_nonum (by simpa only [nonum] using h)
  | .lst xs, h => by rw [below]; exact belows_of_nonum (by simpa only [nonum] using h)
  | .scr xs, h => by rw [below]; exact belows_of_nonum (by simpa only [nonum] using h)
  | .dct t ks vs, h => by
    simp only [nonum, Bool.and_eq_true] at h
    rw [below, belows_of_nonum h.1, belows_of_nonum h.2]; rfl
  | .non, _ => by simp [below]
  | .bl _, _ => by simp [below]
  | .int _, _ => by simp [below]
  | .str _, _ => by simp [below]
  | .exc _, _ => by simp [below]
theorem belows_of_nonum {n : Nat} : ∀ {ds : List D}, nonum.nonums ds = true → belows n ds = true
  | [], _ => by simp [belows]
  | x :: xs, h => by
    simp only [nonum.nonums, Bool.and_eq_true] at h
    rw [belows, below_of_nonum h.1, belows_of_nonum h.2]; rfl
end
section
variable {W : Wd} {m m' m2 : Nb} {L L' L2 Lq : Hl} {H H' : Hp}
mutual
theorem below_rep : ∀ {v : V} {d : D}, RepV W m L H v d → below L.length d = true
  | _, _, .non => by simp [below]
  | _, _, .bl b => by simp [below]
  | _, _, .int i => by simp [below]
  | _, _, .str x h => by simp [below]
  | _, _, .tup h r ap => by rw [below]; exact belows_rep r
  | _, _, .tupK h r => by rw [below]; exact belows_rep r
  | _, _, .lst h r ap => by rw [below]; exact belows_rep r
  | _, _, .scr h r ap => by rw [below]; exact belows_rep r
  | _, _, .scrK h r => by rw [below]; exact belows_rep r
  | _, _, .dct h r1 r2 ap => by rw [below, belows_rep r1, belows_rep r2]; rfl
  | _, _, .obj h => by simp [below, h]
  | _, _, .exc h ap => by simp [below]
theorem belows_rep : ∀ {vs : List V} {ds : List D}, RepVs W m L H vs ds → belows L.length ds = true
  | _, _, .nil => by simp [belows]
  | _, _, .cons h r => by rw [belows, below_rep h, belows_rep r]; rfl
end
/-- fewer numbers -/
structure Fw (n : Nat) (m : Nb) (L : Hl) (m2 : Nb) (L2 : Hl) : Prop where
  ap : ∀ a, Apart m L a → Apart m2 L2 a
  ids : ∀ i, i < n → m2.m i = m.m i
  len : n ≤ L2.length
mutual
theorem RepV.fw {n : Nat} (f : Fw n m L m2 L2) : ∀ {v : V} {d : D}, RepV W m L H v d → below n d = true → RepV W m2 L2 H v d
  | _, _, .non, _ => .non
  | _, _, .bl b, _ => .bl b
  | _, _, .int i, _ => .int i
  | _, _, .str x h, _ => .str x h
  | _, _, .tup h r ap, b => .tup h (RepVs.fw f r (by simpa only [below] using b)) (f.ap _ ap)
  | _, _, .tupK h r, b => .tupK h (RepVs.fw f r (by simpa only [below] using b))
  | _, _, .lst h r ap, b => .lst h (RepVs.fw f r (by simpa only [below] using b)) (f.ap _ ap)
  | _, _, .scr h r ap, b => .scr h (RepVs.fw f r (by simpa only [below] using b)) (f.ap _ ap)
  | _, _, .scrK h r, b => .scrK h (RepVs.fw f r (by simpa only [below] using b))
  | _, _, .dct h r1 r2 ap, b => by
    simp only [below, Bool.and_eq_true] at b
    exact .dct h (RepVs.fw f r1 b.1) (RepVs.fw f r2 b.2) (f.ap _ ap)
  | _, _, .obj (i := i) h, b => by
    have hi : i < n := by simpa [below] using b
    rw [← f.ids i hi]
    exact .obj (Nat.lt_of_lt_of_le hi f.len)
  | _, _, .exc h ap, _ => .exc h (f.ap _ ap)
theorem RepVs.fw {n : Nat} (f : Fw n m L m2 L2) : ∀ {vs : List V} {ds : List D}, RepVs W m L H vs ds → belows n ds = true → RepVs W m2 L2 H vs ds
  | _, _, .nil, _ => .nil
  | _, _, .cons h r, b => by
    simp only [belows, Bool.and_eq_true] at b
    exact .cons (RepV.fw f h b.1) (RepVs.fw f r b.2)
end
def O.below (n : Nat) : O → Bool
  | .dead => true
  | .lst xs => belows n xs
  | .dct _ ks vs => belows n ks && belows n vs
  | .ins _ fs => belows n (fs.map (·.2))
theorem O.below_of_nonum {n : Nat} {o : O} (h : o.nonum = true) : o.below n = true := by
  cases o with
  | dead => rfl
  | lst xs => exact belows_of_nonum h
  | dct t ks vs =>
    simp only [O.nonum, Bool.and_eq_true] at h
    simp only [O.below, belows_of_nonum h.1, belows_of_nonum h.2, Bool.and_self]
  | ins c fs => cases h
theorem below_repO {a : Addr} {o : O} (h : RepO W m L H a o) : o.below L.length = true := by
  cases o with
  | dead => rfl
  | lst xs => obtain ⟨_, _, r⟩ := h; exact belows_rep r
  | dct t ks vs => obtain ⟨_, _, _, r1, r2⟩ := h; simp only [O.below, belows_rep r1, belows_rep r2, Bool.and_self]
  | ins c fs => obtain ⟨_, _, _, _, _, _, _, _, r⟩ := h; exact belows_rep r
theorem RepO.fw {n : Nat} (f : Fw n m L m2 L2) {a : Addr} {o : O} (h : RepO W m L H a o) (b : o.below n = true) : RepO W m2 L2 H a o := by
  cases o with
  | dead => trivial
  | lst xs => obtain ⟨vs, h1, r⟩ := h; exact ⟨vs, h1, r.fw f b⟩
  | dct t ks vs =>
    obtain ⟨kv, vv, h1, r1, r2⟩ := h
    simp only [O.below, Bool.and_eq_true] at b
    exact ⟨kv, vv, h1, r1.fw f b.1, r2.fw f b.2⟩
  | ins c fs => obtain ⟨C, dx, gs, h1, h2, h3, h4, h5, r⟩ := h; exact ⟨C, dx, gs, h1, h2, h3, f.ap _ h4, h5, r.fw f b⟩
theorem alive_pre {i : Nat} (hl : L' = Lq ++ L'.drop L.length) (hq : Lq.length = L.length) (h : Alive Lq i) : Alive L' i ∧ i < L.length := by
  obtain ⟨o, e, lv⟩ := h
  have hi := (List.getElem?_eq_some_iff.mp e).1
  refine ⟨⟨o, ?_, lv⟩, by omega⟩
  rw [hl, List.getElem?_append_left hi]
  exact e
theorem get_pre {i : Nat} {o : O} (hl : L' = Lq ++ L'.drop L.length) (e : Lq[i]? = some o) : L'[i]? = some o := by
  have hi := (List.getElem?_eq_some_iff.mp e).1
  rw [hl, List.getElem?_append_left hi]
  exact e
/-- what is forgotten is not missed -/
theorem trim_ok {d d' : D} {v : V} (T : Trim L L' d d' Lq) (r0 : RepL W m L H) (st : Step m L H m' L' H') (rl : RepL W m' L' H') (rv : RepV W m' L' H' v d) : ∃ m2, Step m L H m2 Lq H' ∧ RepL W m2 Lq H' ∧ RepV W m2 Lq H' v d' := by
  cases T with
  | same => exact ⟨m', st, rl, rv⟩
  | cut hd hl hq ho =>
    have f : Fw L.length m' L' m' Lq := ⟨fun a ap => ⟨fun i ai => ap.1 i (alive_pre hl hq ai).1, ap.2⟩, fun _ _ => rfl, Nat.le_of_eq hq.symm⟩
    refine ⟨m', ⟨Nat.le_of_eq hq.symm, st.ids, st.rs, fun i hi ai => st.live i hi (alive_pre hl hq ai).1, st.keep, st.there, fun i hi ai => ?_⟩, ⟨fun i o e => ?_, fun i j ai aj e => rl.inj i j (alive_pre hl hq ai).1 (alive_pre hl hq aj).1 e, rl.res, fun i ai => rl.nr i (alive_pre hl hq ai).1⟩, rv.fw f (below_of_nonum hd)⟩
    · exact absurd (alive_pre hl hq ai).2 (Nat.not_lt.mpr hi)
    · have hi : i < L.length := by have := (List.getElem?_eq_some_iff.mp e).1; omega
      refine (rl.ob i o (get_pre hl e)).fw f ?_
      rcases ho i o e with z | z
      · exact below_repO (r0.ob i o z)
      · exact O.below_of_nonum z
  | fresh hj hLj hn hl hq ho =>
    rename_i j o0 Lp
    have al : ∀ {i : Nat}, Alive (Lp ++ [o0]) i → (i < L.length ∧ Alive L' i ∧ Alive Lp i) ∨ (i = L.length ∧ Alive L' j) := fun {i} h => by
      obtain ⟨o, e, lv⟩ := h
      by_cases hi : i < Lp.length
      · rw [List.getElem?_append_left hi] at e
        exact .inl ⟨by omega, (alive_pre hl hq ⟨o, e, lv⟩).1, o, e, lv⟩
      · have hh := (List.getElem?_eq_some_iff.mp e).1
        simp at hh
        have : i = Lp.length := by omega
        subst this
        rw [List.getElem?_append_right (Nat.le_refl _)] at e
        simp at e
        subst e
        exact .inr ⟨hq, o0, hLj, lv⟩
    have f : Fw L.length m' L' (nwId m' L.length (m'.m j)) (Lp ++ [o0]) := by
      refine ⟨fun a ap => ⟨fun i ai => ?_, ap.2⟩, fun i hi => nwId_ne (Nat.ne_of_lt hi), by simp; omega⟩
      rcases al ai with ⟨hi, a1, _⟩ | ⟨hi, a1⟩
      · rw [nwId_ne (Nat.ne_of_lt hi)]; exact ap.1 i a1
      · rw [hi, nwId_same]; exact ap.1 j a1
    refine ⟨nwId m' L.length (m'.m j), ⟨by simp; omega, fun i hi => by rw [nwId_ne (Nat.ne_of_lt hi)]; exact st.ids i hi, st.rs, fun i hi ai => ?_, st.keep, st.there, fun i hi ai => ?_⟩, ⟨fun i o e => ?_, fun i i2 ai aj e => ?_, rl.res, fun i ai => ?_⟩, ?_⟩
    · rcases al ai with ⟨_, a1, _⟩ | ⟨h, _⟩
      · exact st.live i hi a1
      · omega
    · rcases al ai with ⟨h, _⟩ | ⟨h, a1⟩
      · omega
      · rw [h, nwId_same]; exact st.new j hj a1
    · by_cases hi : i < Lp.length
      · rw [List.getElem?_append_left hi] at e
        rw [nwId_ne (by omega)]
        refine (rl.ob i o (get_pre hl e)).fw f ?_
        rcases ho i o e with z | z
        · exact below_repO (r0.ob i o z)
        · exact O.below_of_nonum z
      · have hh := (List.getElem?_eq_some_iff.mp e).1
        simp at hh
        have hi' : i = Lp.length := by omega
        subst hi'
        rw [List.getElem?_append_right (Nat.le_refl _)] at e
        simp at e
        subst e
        rw [hq, nwId_same]
        exact (rl.ob j _ hLj).fw f (O.below_of_nonum hn)
    · rcases al ai with ⟨hi, a1, _⟩ | ⟨hi, a1⟩ <;> rcases al aj with ⟨hj', a2, _⟩ | ⟨hj', a2⟩
      · rw [nwId_ne (Nat.ne_of_lt hi), nwId_ne (Nat.ne_of_lt hj')] at e
        exact rl.inj i i2 a1 a2 e
      · rw [nwId_ne (Nat.ne_of_lt hi), hj', nwId_same] at e
        have := rl.inj i j a1 a2 e
        omega
      · rw [nwId_ne (Nat.ne_of_lt hj'), hi, nwId_same] at e
        have := rl.inj j i2 a1 a2 e
        omega
      · rw [hi, hj']
    · rcases al ai with ⟨hi, a1, _⟩ | ⟨hi, a1⟩
      · rw [nwId_ne (Nat.ne_of_lt hi)]; exact rl.nr i a1
      · rw [hi, nwId_same]; exact rl.nr j a1
    · cases rv with
      | obj hh =>
        have := RepV.obj (W := W) (m := nwId m' L.length (m'.m j)) (L := Lp ++ [o0]) (H := H') (i := L.length) (by simp; omega)
        rw [nwId_same] at this
        exact this
end
/-! ### a def -/
/-- what is known at a place of the program -/
structure Base (Φ : Phi) (k : Nat) (Γ : Gm) (P : Program) (w : World) (K : PySem.W.Frag) (mg : Str → Option Value) (base : Heap) : Prop where
  cst : ∀ x i, Γ.cst.lookup x = some i → ∃ t, mg x = some (.int i t)
  blt : ∀ x ∈ bltNames, mg x = none
  fns : ∀ f ∈ Γ.fns, ∃ fa, mg f = some (.ref fa) ∧ PySem.W.keepIn K (.ref fa) = true
  exs : ∀ x ∈ Γ.exs, ∃ C, mg x = some (.ref C) ∧ PySem.W.excIn K C He.veBase "ValueError.__new__" = true ∧ PySem.W.keepIn K (.ref C) = true ∧ PySem.W.subIn K (.ref C) (.type "BaseException") = some true ∧ PySem.W.typeIn K (.ref C) = some (.type "type")
  call : ∀ f xs L Q Ex, Φ f xs L Q Ex → Fn ⟨P, w, K, mg⟩ base k (Φ f) f Γ.kws
theorem start_rs {W : Wd} {m : Nb} {L : Hl} {H : Hp} : ∀ {vs : List V} {xs : List D} {n n' : Nat} (i : Nat) (d : D), RepVs W m L H vs xs → ((xs.map some ++ List.replicate n none : Ds))[i]? = some (some d) → ∃ v, ((vs.map some ++ List.replicate n' none : _root_.L2.St))[i]? = some (some v) ∧ RepV W m L H v d
  | _, _, n, n', i, d, .nil, e => by
    simp [List.getElem?_replicate] at e
  | _, _, n, n', 0, d, .cons r t, e => by
    simp at e
    subst e
    exact ⟨_, rfl, r⟩
  | _, _, n, n', i + 1, d, .cons r t, e => by
    have e' := start_rs (n := n) (n' := n') i d t (by simpa using e)
    simpa using e'
theorem def_ok {Φ : Phi} {sb : Str → Str → Bool} {k : Nat} {Γ : Gm} {P : Program} {w : World} {K : PySem.W.Frag} {mg : Str → Option Value} {base : Heap} {x : Str} {args : Arguments} {body : List Stmt} {ps : List Str} {f : Addr} {fd : FuncData} {ir : ISs} {φ : List D → Hl → QE → XH → Prop}
    (F : FunD K x x args body Γ.sc [] [] f fd) (S : FnScope Γ.N ps Γ.sc) (hfk : Γ.fnok = none) (hc : chkSs Γ ir body = true) (b : Base Φ k Γ P w K mg base)
    (hφ : ∀ xs L Q Ex, φ xs L Q Ex → xs.length = ps.length ∧ bodyK Φ sb Γ.N.length ir xs L Q Ex) : FnOk P w K mg base (L2.CX P w) (k + 1) f fd ps (lSp ⟨P, w, K, mg⟩ φ) := by
  refine F.ok S (fun vs H Q Ex ⟨m, L, xs, Qd, Ed, rl, rv, h, _⟩ => rv.length.trans (hφ _ _ _ _ h).1) fun cdv A outer s H vs Q Ex hr ⟨m, L, xs, Qd, Ed, rl, rv, h, c1, c2⟩ => ?_
  obtain ⟨hl, hb⟩ := hφ _ _ _ _ h
  have hpl : ps.length ≤ Γ.N.length := by have := congrArg List.length S.pre; rw [List.length_take] at this; omega
  let X := cxOf (L2.CX P w) P w K mg base Γ.N x Γ.sc f cdv A outer s H Ex
  have tk : Takes X (lW ⟨P, w, K, mg⟩ (some ⟨m, L, H⟩) (FinX L Ed)) := (takes_of (X := X) rfl rfl rfl rfl).imp fun cls d σ H' ⟨c, m', L', ds, h1, h2, h3, Lq, T, q⟩ => by
    subst h2
    have st := h3.st _ rfl
    obtain ⟨m2, st2, rl2, _⟩ := trim_ok T rl st h3.rl (.non (W := ⟨P, w, K, mg⟩))
    exact c2 c Lq cls m2 H' q h1 st2 rl2
  have G : GoodS Φ (some ⟨m, L, H⟩) (FinX L Ed) k Γ X :=
    { g := { N := rfl, nd := S.nd, sc := rfl, fn := fun _ _ _ => .inl rfl, calm := rfl, room := hr, tk := tk, cst := b.cst, blt := b.blt, fns := b.fns, call := b.call }
      pass := passes_of rfl
      kind := S.kind
      exs := fun c hc => by
        obtain ⟨C, h1, h2, h3, h4, h5⟩ := b.exs c hc
        exact ⟨C, h1, h2, h3, raises_own h4 h5⟩ }
  refine ⟨_, sndSs sb G ir body hc, ⟨m, L, startD Γ.N.length xs, _, ⟨rl, ?_, fun i d e => ?_, fun e he => by cases he; exact Step.refl⟩, hb, ?_⟩⟩
  · show (startD Γ.N.length xs).length = (_root_.L2.start Γ.N vs).length
    unfold startD _root_.L2.start
    simp only [List.length_append, List.length_map, List.length_replicate, rv.length]
  · exact start_rs i d rv e
  · refine ⟨fun ds' L' m' σ' H' q st S' => ?_, fun _ _ _ _ _ q _ _ => q.elim, fun _ _ _ _ _ q _ _ => q.elim, fun d L' v m' H' q st rl' r => ?_⟩
    · obtain ⟨d', Lq, T, q⟩ := q
      obtain ⟨m2, st2, rl2, r2⟩ := trim_ok T rl st S'.rl (.non (W := ⟨P, w, K, mg⟩))
      exact c1 d' Lq _ m2 H' q st2 rl2 r2
    · obtain ⟨d', Lq, T, q⟩ := q
      obtain ⟨m2, st2, rl2, r2⟩ := trim_ok T rl st rl' r
      exact c1 d' Lq _ m2 H' q st2 rl2 r2
end Nr

/-! A table of defs; the law's end. -/
namespace Nr
open PySem PySem.Spec PyProof.Rows L2
structure Def where
  nm : Str
  N : List Str
  np : Nat
  args : Arguments
  body : List Stmt
  sc : Scope
  ir : ISs
def Def.ps (d : Def) : List Str := d.N.take d.np
structure Tb where
  defs : List Def
  cst : List (Str × Int)
  kws : List (Str × Nat × List Str × List Nat)
  exs : List Str
def Tb.gm (T : Tb) (d : Def) : Gm := { N := d.N, sc := d.sc, fnok := none, fns := T.defs.map (·.nm), cst := T.cst, kws := T.kws, exs := T.exs }
def Tb.get (T : Tb) (f : Str) : Option Def := T.defs.find? fun d => decide (d.nm = f)
def isFnKind : ScopeKind → Bool
  | .function => true
  | _ => false
def isFree : NameKind → Bool
  | .free => true
  | _ => false
/-- the check of one def -/
def Tb.chk (T : Tb) (d : Def) : Bool := chkSs (T.gm d) d.ir d.body && (isFnKind d.sc.kind && !d.sc.isCoroutine && !d.sc.isGenerator && decide d.N.Nodup && decide (d.np ≤ d.N.length) && d.ps.all (fun x => isLoc (d.sc.names.lookup x)) && d.sc.names.all (fun y => !isFree y.2))
/-- how arguments become bound -/
def BindOk (T : Tb) (d : Def) : Prop := ∀ (kV doc pm : Value) (an : Option Addr) (cdv ct : Value),
  (∀ us : List Value, us.length = d.ps.length → bindArgs (PySem.W.fnOf d.nm d.nm d.args d.body d.sc .none kV doc pm an cdv ct) ⟨us, []⟩ = pure (d.ps.zip us)) ∧
  ∀ q ∈ T.kws, q.1 = d.nm → ∀ us ws : List Value, us.length = q.2.1 → ws.length = q.2.2.1.length → bindArgs (PySem.W.fnOf d.nm d.nm d.args d.body d.sc .none kV doc pm an cdv ct) ⟨us, q.2.2.1.zip ws⟩ = pure (d.ps.zip (q.2.2.2.filterMap fun i => (us ++ ws)[i]?))
def Tb.kwC (T : Tb) (d : Def) : Bool := T.kws.all fun q => if q.1 = d.nm then decide (q.2.2.2.length = d.ps.length) && q.2.2.2.all (fun i => decide (i < q.2.1 + q.2.2.1.length)) else true
/-- what the law's head knows -/
def Tb.fn (T : Tb) : List He.DefD := T.defs.map fun d => ⟨(d.nm, none), d.nm, d.nm, d.args, d.body, d.sc, [], []⟩
def Tb.fa (T : Tb) : List He.Fa := T.defs.map (fun d => .glo d.nm) ++ (bltNames.map .free ++ (T.cst.map (fun q => .int q.1 q.2) ++ (T.exs.map .glo ++ T.exs.map .exc)))
section
variable {T : Tb} {P : Program} {w : World} {K : PySem.W.Frag} {mg : Str → Option Value} {base : Heap}
theorem scope_of {d : Def} (h : T.chk d = true) : chkSs (T.gm d) d.ir d.body = true ∧ FnScope d.N d.ps d.sc := by
  unfold Tb.chk at h
  simp only [Bool.and_eq_true] at h
  obtain ⟨h0, ⟨⟨⟨⟨⟨h1, h2⟩, h3⟩, h4⟩, h5⟩, h6⟩, h7⟩ := h
  refine ⟨h0, ⟨?_, nb h2, nb h3, of_decide_eq_true h4, ?_, fun x hx => isLoc_of (List.all_eq_true.mp h6 x hx), fun y hy e => ?_⟩⟩
  · cases e : d.sc.kind <;> rw [e] at h1 <;> first | rfl | cases h1
  · unfold Def.ps
    rw [List.length_take, Nat.min_eq_left (of_decide_eq_true h5)]
  · have := List.all_eq_true.mp h7 y hy
    rw [e] at this
    cases this
theorem lookup_pair {α : Type} : ∀ {l : List (Str × α)} {x : Str} {i : α}, l.lookup x = some i → (x, i) ∈ l
  | (k, v) :: r, x, i, h => by
    rw [List.lookup_cons] at h
    cases e : (x == k) with
    | true =>
      rw [e] at h
      cases h
      have := eq_of_beq e
      subst this
      exact List.mem_cons_self
    | false =>
      rw [e] at h
      exact List.mem_cons_of_mem _ (lookup_pair h)
/-- every def of the table keeps its contract, at every level -/
theorem table {Φn : Nat → Phi} {sb : Str → Str → Bool} {h : Heap} (KX : K.In h) (G : h.Ns mainGlobals mg) (c : He.SaysD T.fa T.fn K) (hchk : T.defs.all (fun d => T.chk d && T.kwC d) = true) (hbind : ∀ d ∈ T.defs, BindOk T d)
    (h0 : ∀ f xs L Q Ex, ¬ Φn 0 f xs L Q Ex)
    (hs : ∀ k f xs L Q Ex, Φn (k + 1) f xs L Q Ex → ∃ d, T.get f = some d ∧ xs.length = d.ps.length ∧ bodyK (Φn k) sb d.N.length d.ir xs L Q Ex) :
    ∀ k f xs L Q Ex, Φn k f xs L Q Ex → Fn ⟨P, w, K, mg⟩ base k (Φn k f) f T.kws
  | 0, f, xs, L, Q, Ex, h => absurd h (h0 f xs L Q Ex)
  | k + 1, f, xs, L, Q, Ex, hf => by
    obtain ⟨d, hd, _⟩ := hs k f xs L Q Ex hf
    have hm := List.mem_of_find?_eq_some hd
    have hn : d.nm = f := by simpa using List.find?_some hd
    subst hn
    have hc := List.all_eq_true.mp hchk d hm
    obtain ⟨hc1, hc2⟩ := b2 hc
    obtain ⟨hcs, S⟩ := scope_of hc1
    have hg : ∀ d ∈ T.defs, mg d.nm = some (.ref (He.ga K d.nm)) ∧ ∃ fd, FunD K d.nm d.nm d.args d.body d.sc [] [] (He.ga K d.nm) fd := fun d hm => by
      refine ⟨He.glo_ok KX G (c.facts (f := .glo d.nm) (List.mem_append_left _ (List.mem_map.mpr ⟨d, hm, rfl⟩))), ?_⟩
      exact c.defs (d := ⟨(d.nm, none), d.nm, d.nm, d.args, d.body, d.sc, [], []⟩) (List.mem_map.mpr ⟨d, hm, rfl⟩)
    obtain ⟨g1, fd, F⟩ := hg d hm
    have B : Base (Φn k) k (T.gm d) P w K mg base :=
      { cst := fun x i e => He.int_ok KX G (c.facts (f := .int x i) (List.mem_append_right _ (List.mem_append_right _ (List.mem_append_left _ (List.mem_map.mpr ⟨(x, i), lookup_pair e, rfl⟩)))))
        blt := fun x hx => He.free_ok KX G (c.facts (f := .free x) (List.mem_append_right _ (List.mem_append_left _ (List.mem_map.mpr ⟨x, hx, rfl⟩))))
        fns := fun f hf => by
          obtain ⟨d', hd', rfl⟩ := List.mem_map.mp hf
          obtain ⟨g1, fd, F⟩ := hg d' hd'
          exact ⟨_, g1, F.kp⟩
        exs := fun x hx => by
          obtain ⟨e1, e2, e3, e4⟩ := He.exc_ok (c.facts (f := .exc x) (List.mem_append_right _ (List.mem_append_right _ (List.mem_append_right _ (List.mem_append_right _ (List.mem_map.mpr ⟨x, hx, rfl⟩))))))
          exact ⟨_, He.glo_ok KX G (c.facts (f := .glo x) (List.mem_append_right _ (List.mem_append_right _ (List.mem_append_right _ (List.mem_append_left _ (List.mem_map.mpr ⟨x, hx, rfl⟩)))))), e1, e2, e3, e4⟩
        call := fun f xs L Q Ex hq => table KX G c hchk hbind h0 hs k f xs L Q Ex hq }
    refine ⟨_, fd, d.ps, g1, F.kp, def_ok (sb := sb) (ir := d.ir) F S rfl hcs B fun xs L Q Ex hq => ?_, fun s us _ hl => F.bindsA (fun kV doc pm an cdv ct us hl => (hbind d hm kV doc pm an cdv ct).1 us hl) s us hl, fun n ks perm hq => ?_⟩
    · obtain ⟨d', hd', h1, h2⟩ := hs k _ xs L Q Ex hq
      rw [hd] at hd'
      cases hd'
      exact ⟨h1, h2⟩
    · have hk := List.all_eq_true.mp hc2 _ hq
      simp only [if_true, Bool.and_eq_true] at hk
      refine ⟨of_decide_eq_true hk.1, fun i hi => of_decide_eq_true (List.all_eq_true.mp hk.2 i hi), fun s us ws _ h1 h2 => ?_⟩
      obtain ⟨oc, od, dV, kV, doc, pm, an, cdv, ct, osl, rfl, lk, hcd, hD, hK⟩ := F.ex
      rcases hD with ⟨_, rfl⟩ | ⟨e, _⟩
      · exact .of_eq ((hbind d hm kV doc pm an cdv ct).2 _ hq rfl us ws h1 h2)
      · exact absurd rfl e
theorem not_alive {i : Nat} (h : Alive [] i) : False := absurd h.lt (by simp)
theorem repL_nil {W : Wd} {H : Hp} : RepL W ⟨fun _ => 0, []⟩ [] H := ⟨fun i o e => (by simp at e), fun i j ai => (not_alive ai).elim, fun a z => (by cases z), fun i ai => (not_alive ai).elim⟩
theorem apart_nil {a : Addr} : Apart ⟨fun _ => 0, []⟩ [] a := ⟨fun i ai => (not_alive ai).elim, fun z => by cases z⟩
/-- the law's def, from the outside -/
theorem law_ok {Φn : Nat → Phi} {sb : Str → Str → Bool} {h : Heap} {fa : Addr} {k : Nat} {d : Def} (KX : K.In h) (G : h.Ns mainGlobals mg) (c : He.SaysD T.fa T.fn K) (hchk : T.defs.all (fun d => T.chk d && T.kwC d) = true) (hbind : ∀ d ∈ T.defs, BindOk T d)
    (h0 : ∀ f xs L Q Ex, ¬ Φn 0 f xs L Q Ex)
    (hs : ∀ k f xs L Q Ex, Φn (k + 1) f xs L Q Ex → ∃ d, T.get f = some d ∧ xs.length = d.ps.length ∧ bodyK (Φn k) sb d.N.length d.ir xs L Q Ex)
    (hd : T.get "law" = some d) (hps : d.ps = [("script" : Str)]) (hmg : mg ("law" : Str) = some (.ref fa))
    (hl : ∀ ns : List Int, ns.length ≤ 63 → Φn k "law" [.scr (ns.map .int)] [] (fun x _ => x = .bl true) (fun _ _ => False)) :
    ∃ fd : FuncData, (∀ (s : Shared) (v : Value), BindsTo s fd ⟨[v], []⟩ [("script", v)]) ∧ ∃ sp : Sp, (∀ (H : Hp) (a : Addr) (ns : List Int), ns.length ≤ 63 → Only H → SqL K H a (ns.map V.int) → sp [.ref a] H (fun v _ => v = .bl true) fun _ _ _ => False) ∧
      ∀ base : Heap, K.In base → base.Ns mainGlobals mg → FnOk P w K mg base (L2.CX P w) k fa fd ["script"] sp := by
  have hm := List.mem_of_find?_eq_some hd
  have hn : d.nm = "law" := by simpa using List.find?_some hd
  obtain ⟨fa', fd, ps, e1, e2, F, b1, _⟩ := (table (P := P) (w := w) (base := h) (sb := sb) KX G c hchk hbind h0 hs k "law" _ _ _ _ (hl [] (by decide))).ok
  have e1 : mg ("law" : Str) = some (.ref fa') := e1
  rw [hmg] at e1
  cases e1
  obtain ⟨fd', FD⟩ := c.defs (d := ⟨(d.nm, none), d.nm, d.nm, d.args, d.body, d.sc, [], []⟩) (List.mem_map.mpr ⟨d, hm, rfl⟩)
  have ega : He.fAd K (d.nm, none) = fa := by
    have q : mg d.nm = some (.ref (He.ga K d.nm)) := He.glo_ok KX G (c.facts (f := .glo d.nm) (List.mem_append_left _ (List.mem_map.mpr ⟨d, hm, rfl⟩)))
    rw [hn] at q
    rw [hmg] at q
    cases q
    show He.ga K d.nm = He.ga K "law"
    rw [hn]
  refine ⟨fd', fun s v => ?_, lSp ⟨P, w, K, mg⟩ (Φn k "law"), fun H a ns h63 hO hS => ?_, fun base hb hg => ?_⟩
  · have := FunD.bindsA (ps := d.ps) FD (fun kV doc pm an cdv ct us hl => (hbind d hm kV doc pm an cdv ct).1 us hl) s [v] (by rw [hps]; rfl)
    rw [hps] at this
    exact this
  · refine ⟨⟨fun _ => 0, []⟩, [], [.scr (ns.map .int)], _, _, repL_nil, .cons ?_ .nil, hl ns h63, fun d' L' v m' H' q st rl r => ?_, fun c L' cls m' H' q => q.elim⟩
    · have rs : ∀ ns : List Int, RepVs ⟨P, w, K, mg⟩ ⟨fun _ => 0, []⟩ [] H (ns.map V.int) (ns.map D.int) := fun ns => by
        induction ns with
        | nil => exact .nil
        | cons n ns ih => exact .cons (.int n) ih
      rcases hS with (hS | ⟨o, hS⟩) | hS
      · rcases hO a with z | ⟨o, xs, z⟩ <;> rw [hS] at z <;> cases z
      · exact .scr hS (rs ns) apart_nil
      · exact .scrK hS (rs ns)
    · subst q
      cases r
      rfl
  · obtain ⟨fa2, fd2, ps2, f1, f2, F2, _⟩ := (table (P := P) (w := w) (base := base) (sb := sb) KX G c hchk hbind h0 hs k "law" _ _ _ _ (hl [] (by decide))).ok
    have f1 : mg ("law" : Str) = some (.ref fa2) := f1
    rw [hmg] at f1
    cases f1
    cases k with
    | zero => exact absurd (hl [] (by decide)) (h0 _ _ _ _ _)
    | succ k =>
      obtain ⟨hc1, _⟩ := b2 (List.all_eq_true.mp hchk d hm)
      obtain ⟨hcs, S⟩ := scope_of hc1
      rw [ega] at FD
      rw [← hps]
      refine def_ok (sb := sb) (ir := d.ir) (Φ := Φn k) FD S rfl hcs ?_ fun xs L Q Ex hq => ?_
      · have hg' : ∀ d ∈ T.defs, mg d.nm = some (.ref (He.ga K d.nm)) ∧ ∃ fd, FunD K d.nm d.nm d.args d.body d.sc [] [] (He.ga K d.nm) fd := fun d hm => by
          refine ⟨He.glo_ok KX G (c.facts (f := .glo d.nm) (List.mem_append_left _ (List.mem_map.mpr ⟨d, hm, rfl⟩))), ?_⟩
          exact c.defs (d := ⟨(d.nm, none), d.nm, d.nm, d.args, d.body, d.sc, [], []⟩) (List.mem_map.mpr ⟨d, hm, rfl⟩)
        exact
        { cst := fun x i e => He.int_ok KX G (c.facts (f := .int x i) (List.mem_append_right _ (List.mem_append_right _ (List.mem_append_left _ (List.mem_map.mpr ⟨(x, i), lookup_pair e, rfl⟩)))))
          blt := fun x hx => He.free_ok KX G (c.facts (f := .free x) (List.mem_append_right _ (List.mem_append_left _ (List.mem_map.mpr ⟨x, hx, rfl⟩))))
          fns := fun f hf => by
            obtain ⟨d', hd', rfl⟩ := List.mem_map.mp hf
            obtain ⟨g1, fd, F⟩ := hg' d' hd'
            exact ⟨_, g1, F.kp⟩
          exs := fun x hx => by
            obtain ⟨e1, e2, e3, e4⟩ := He.exc_ok (c.facts (f := .exc x) (List.mem_append_right _ (List.mem_append_right _ (List.mem_append_right _ (List.mem_append_right _ (List.mem_map.mpr ⟨x, hx, rfl⟩))))))
            exact ⟨_, He.glo_ok KX G (c.facts (f := .glo x) (List.mem_append_right _ (List.mem_append_right _ (List.mem_append_right _ (List.mem_append_left _ (List.mem_map.mpr ⟨x, hx, rfl⟩)))))), e1, e2, e3, e4⟩
          call := fun f xs L Q Ex hq => table KX G c hchk hbind h0 hs k f xs L Q Ex hq }
      · obtain ⟨d', hd', h1, h2⟩ := hs k _ xs L Q Ex hq
        rw [hd] at hd'
        cases hd'
        exact ⟨h1, h2⟩
end
end Nr

/-! The contracts' kit: how the small language runs on data that are known. -/
namespace Nr
open PySem PySem.Spec PyProof.Rows L2
theorem ev_truth (L : Hl) (Q : Bool → Prop) : (∀ b, truthK L (.bl b) Q = Q b) ∧ (∀ i, truthK L (.int i) Q = Q (i != 0)) ∧ truthK L .non Q = Q false := by
  refine ⟨fun b => ?_, fun i => ?_, ?_⟩ <;> simp [truthK, truthV, res]
theorem ev_res (L : Hl) : res L .non = .non ∧ (∀ b, res L (.bl b) = .bl b) ∧ (∀ i, res L (.int i) = .int i) ∧ (∀ x, res L (.str x) = .str x) ∧ (∀ xs, res L (.tup xs) = .tup xs) ∧ (∀ xs, res L (.lst xs) = .lst xs) ∧ (∀ xs, res L (.scr xs) = .scr xs) ∧ (∀ t ks vs, res L (.dct t ks vs) = .dct t ks vs) := by
  refine ⟨rfl, fun _ => rfl, fun _ => rfl, fun _ => rfl, fun _ => rfl, fun _ => rfl, fun _ => rfl, fun _ _ _ => rfl⟩
theorem res_at {L : Hl} {n : Nat} {xs : List D} (h : L[n]? = some (.lst xs)) : res L (.obj n) = .lst xs := by simp [res, h]
theorem ev_bin (L : Hl) (Q : D → Prop) (i j : Int) : binK .add L (.int i) (.int j) Q = Q (.int (i + j)) ∧ binK .sub L (.int i) (.int j) Q = Q (.int (i - j)) ∧ binK .mul L (.int i) (.int j) Q = (mulOk i j ∧ Q (.int (i * j))) ∧
    binK .mod L (.int i) (.int j) Q = (0 < j ∧ Q (.int (i % j))) ∧ binK .fdiv L (.int i) (.int j) Q = (CDivW i j ∧ Q (.int (i / j))) ∧ binK .pow L (.int i) (.int j) Q = (powC i j ∧ Q (.int (i ^ j.toNat))) := by
  refine ⟨rfl, ?_, rfl, rfl, rfl, rfl⟩
  show (True ∧ Q (.int (i - j))) = _
  rw [true_and]
theorem ev_cmp (L : Hl) (Q : D → Prop) (i j : Int) : cmpK .lt L (.int i) (.int j) Q = Q (.bl (decide (i < j))) ∧ cmpK .le L (.int i) (.int j) Q = Q (.bl (decide (i ≤ j))) ∧ cmpK .gt L (.int i) (.int j) Q = Q (.bl (decide (j < i))) ∧ cmpK .ge L (.int i) (.int j) Q = Q (.bl (decide (j ≤ i))) ∧
    cmpK .eq L (.int i) (.int j) Q = Q (.bl (decide (i = j))) ∧ cmpK .ne L (.int i) (.int j) Q = Q (.bl (!decide (i = j))) := by
  have e : (i == j) = decide (i = j) := by by_cases h : i = j <;> simp [h]
  refine ⟨rfl, rfl, rfl, rfl, ?_, ?_⟩ <;> simp [cmpK, plain, res, deq, toP, PyData.eqv, e]
theorem ev_is (L : Hl) (Q : D → Prop) (x : D) : cmpK .is L x .non Q = Q (.bl (isNon x)) ∧ cmpK .isnot L x .non Q = Q (.bl (!isNon x)) ∧ (∀ a b, cmpK .is L (.bl a) (.bl b) Q = Q (.bl (a == b))) ∧ (∀ a b, cmpK .isnot L (.bl a) (.bl b) Q = Q (.bl (!(a == b)))) := ⟨rfl, rfl, fun _ _ => rfl, fun _ _ => rfl⟩
theorem ev_bl_if (Q R : Prop) (b : Bool) : (match (D.bl b) with
    | .bl true => Q
    | .bl false => R
    | _ => False) = (if b = true then Q else R) := by cases b <;> rfl
theorem ev_ty {L : Hl} {x : D} {n : Tn} (h : tnOf L x = some n) (Q : Bool → Prop) : isTy .int L x Q = Q (tnIs .int n) ∧ isTy .bool L x Q = Q (tnIs .bool n) ∧ isTy .str L x Q = Q (tnIs .str n) ∧ isTy .tuple L x Q = Q (tnIs .tuple n) ∧ isTy .list L x Q = Q (tnIs .list n) ∧ isTy .dict L x Q = Q (tnIs .dict n) ∧ isTy .seq L x Q = Q (tnIs .seq n) := by
  refine ⟨?_, ?_, ?_, ?_, ?_, ?_, ?_⟩ <;> simp [isTy, h]
theorem atI_nat {α : Type} {xs : List α} {k : Nat} (h : k < xs.length) : atI xs (k : Int) = xs[k]? := by
  unfold atI ixN
  rw [if_pos (by omega), if_pos (by omega)]
  rfl
/-- the end of a def: as it stands -/
theorem fin_same {L L' : Hl} {Q : QE} {d : D} (h : Q d L') : Fin L Q d L' := ⟨d, L', .same d, h⟩
theorem finX_same {L L' : Hl} {E : XH} {c : Str} {ds : Ds} (h : E c L') : FinX L E c ds L' := ⟨L', .same .non, h⟩
theorem set_len {L : Hl} {n : Nat} {o : O} : (L.set n o).length = L.length := List.length_set
/-- the end of a def: one object changed, new ones forgotten -/
theorem fin_cut {L R : Hl} {Q : QE} {d : D} {n : Nat} {o : O} (hd : nonum d = true) (ho : o.nonum = true) (h : Q d (L.set n o)) : Fin L Q d (L.set n o ++ R) := by
  refine ⟨d, L.set n o, .cut hd ?_ set_len (fun i u e => ?_), h⟩
  · rw [List.drop_left' set_len]
  · by_cases hi : n = i
    · subst hi
      rw [List.getElem?_set] at e
      simp at e
      obtain ⟨_, rfl⟩ := e
      exact .inr ho
    · rw [List.getElem?_set_ne hi] at e
      exact .inl e
theorem fin_cut0 {L R : Hl} {Q : QE} {d : D} (hd : nonum d = true) (h : Q d L) : Fin L Q d (L ++ R) := by
  refine ⟨d, L, .cut hd ?_ rfl (fun i u e => .inl e), h⟩
  rw [List.drop_left' rfl]
/-! ### loops -/
theorem forR_nil {s : Src} {t : D → DN → Ds → Hl → Prop} {N : DN} {ds : Ds} {L : Hl} (ok : s.ok L) (h : N.nx ds L) : forR s t N [] ds L := ⟨ok, h⟩
/-- an invariant on what is behind, no return, no break -/
theorem forR_inv {t : D → DN → Ds → Hl → Prop} {N : DN} (I : Nat → Ds → Hl → Prop) (items all : List D) (s : Src) : ∀ (k : Nat) (ds : Ds) (L : Hl), I k ds L → (∀ (i : Nat) (x : D) (ds : Ds) (L : Hl), items[i]? = some x → I (k + i) ds L → s.ok L ∧ ∀ M : DN, (∀ ds' L', I (k + i + 1) ds' L' → M.nx ds' L') → M.rt = N.rt → t x M ds L) → (∀ ds L, I (k + items.length) ds L → s.ok L ∧ N.nx ds L) → forR s t N items ds L := by
  induction items with
  | nil => exact fun k ds L h _ hd => hd ds L h
  | cons x xs ih =>
    intro k ds L h hs hd
    obtain ⟨ok, h1⟩ := hs 0 x ds L rfl h
    refine ⟨ok, h1 _ (fun ds' L' h' => ?_) rfl⟩
    refine ih (k + 1) ds' L' h' (fun i y ds L hy hi => ?_) (fun ds L hi => ?_)
    · have := hs (i + 1) y ds L (by simpa using hy) (by rw [show k + (i + 1) = k + 1 + i by omega]; exact hi)
      rw [show k + (i + 1) + 1 = k + 1 + i + 1 by omega] at this
      exact this
    · exact hd ds L (by rw [show k + (x :: xs).length = k + 1 + xs.length by simp; omega]; exact hi)
/-- a comprehension without tests whose element leaves the heap -/
theorem lcR_map {s : Src} {t : D → Hl → (Option D → Hl → Prop) → Prop} {Q : List D → Hl → Prop} {L : Hl} (f : D → D) (hok : s.ok L) : ∀ (items acc : List D), (acc.length + items.length ≤ sizeLine) → (∀ x ∈ items, ∀ k : Option D → Hl → Prop, k (some (f x)) L → t x L k) → Q (acc ++ items.map f) L → lcR s t Q items acc L
  | [], acc, _, _, h => ⟨hok, by simpa using h⟩
  | x :: xs, acc, hl, ht, h => by
    simp at hl
    refine ⟨hok, ht x List.mem_cons_self _ ⟨by omega, lcR_map f hok xs (acc ++ [f x]) (by simp; omega) (fun y hy => ht y (List.mem_cons_of_mem _ hy)) (by simpa using h)⟩⟩
/-- .. with tests -/
theorem lcR_filter {s : Src} {t : D → Hl → (Option D → Hl → Prop) → Prop} {Q : List D → Hl → Prop} {L : Hl} (f : D → Option D) (hok : s.ok L) : ∀ (items acc : List D), (acc.length + items.length ≤ sizeLine) → (∀ x ∈ items, ∀ k : Option D → Hl → Prop, k (f x) L → t x L k) → Q (acc ++ items.filterMap f) L → lcR s t Q items acc L
  | [], acc, _, _, h => ⟨hok, by simpa using h⟩
  | x :: xs, acc, hl, ht, h => by
    simp at hl
    refine ⟨hok, ht x List.mem_cons_self _ ?_⟩
    cases e : f x with
    | none =>
      rw [List.filterMap_cons, e] at h
      exact lcR_filter f hok xs acc (by omega) (fun y hy => ht y (List.mem_cons_of_mem _ hy)) h
    | some z =>
      rw [List.filterMap_cons, e] at h
      exact ⟨by omega, lcR_filter f hok xs (acc ++ [z]) (by simp; omega) (fun y hy => ht y (List.mem_cons_of_mem _ hy)) (by simpa using h)⟩
end Nr

namespace K15
open PySem PySem.Spec PyProof.Rows L2 Nr
def top (i : Nat) : Stmt := PySem.Challenge.pw_namerooms_k15_whole_points.main.body.getD i (.Pass ⟨0, 0, 0, 0⟩)
def iris_integer : ISs := (.cons (.ret (.and (.cons (.isi (.var 0) .int) (.cons (.not (.isi (.var 0) .bool)) (.cons (.chain .le .le (.var 1) (.var 0) (.var 2)) .nil))))) .nil)
def dis_integer : Def := { nm := "is_integer", N := ["thing", "least", "most"], np := 3, args := defArgs (top 5), body := defBody (top 5), sc := defScope (top 5), ir := iris_integer }
def ircommon : ISs := (.cons (.par [0, 1] (.cons (.bi .abs (.cons (.var 0) .nil)) (.cons (.bi .abs (.cons (.var 1) .nil)) .nil))) (.cons (.while_ (.cmp .ne (.var 1) (.int 0)) (.cons (.par [0, 1] (.cons (.var 1) (.cons (.bin .mod (.var 0) (.var 1)) .nil))) .nil)) (.cons (.ret (.var 0)) .nil)))
def dcommon : Def := { nm := "common", N := ["one", "other"], np := 2, args := defArgs (top 7), body := defBody (top 7), sc := defScope (top 7), ir := ircommon }
def iris_point_form : ISs := (.cons (.ite (.or (.cons (.not (.isi (.var 0) .tuple)) (.cons (.cmp .ne (.bi .len (.cons (.var 0) .nil)) (.int 2)) (.cons (.not (.call "is_integer" (.cons (.idx (.var 0) (.int 0)) (.cons (.neg (.gint "LAST_NAME" 999999)) (.cons (.gint "LAST_NAME" 999999) .nil))))) .nil)))) (.cons (.ret (.bl false)) .nil) .nil) (.cons (.ret (.and (.cons (.call "is_integer" (.cons (.idx (.var 0) (.int 1)) (.cons (.int 1) (.cons (.gint "LAST_NAME" 999999) .nil)))) (.cons (.cmp .eq (.call "common" (.cons (.idx (.var 0) (.int 0)) (.cons (.idx (.var 0) (.int 1)) .nil))) (.int 1)) .nil)))) .nil))
def dis_point_form : Def := { nm := "is_point_form", N := ["thing"], np := 1, args := defArgs (top 8), body := defBody (top 8), sc := defScope (top 8), ir := iris_point_form }
def irneed_point : ISs := (.cons (.ite (.not (.call "is_point_form" (.cons (.var 0) .nil))) (.cons (.raise "BadPoint") .nil) .nil) .nil)
def dneed_point : Def := { nm := "need_point", N := ["thing"], np := 1, args := defArgs (top 9), body := defBody (top 9), sc := defScope (top 9), ir := irneed_point }
def irlesser : ISs := (.cons (.ret (.cmp .lt (.bin .mul (.idx (.var 0) (.int 0)) (.idx (.var 1) (.int 1))) (.bin .mul (.idx (.var 1) (.int 0)) (.idx (.var 0) (.int 1))))) .nil)
def dlesser : Def := { nm := "lesser", N := ["one", "other"], np := 2, args := defArgs (top 10), body := defBody (top 10), sc := defScope (top 10), ir := irlesser }
def irpoint_of : ISs := (.cons (.asg (.n 2) (.call "common" (.cons (.var 0) (.cons (.var 1) .nil)))) (.cons (.ret (.tup (.cons (.bin .fdiv (.var 0) (.var 2)) (.cons (.bin .fdiv (.var 1) (.var 2)) .nil)))) .nil))
def dpoint_of : Def := { nm := "point_of", N := ["above", "below", "divisor"], np := 2, args := defArgs (top 11), body := defBody (top 11), sc := defScope (top 11), ir := irpoint_of }
def irmiddle : ISs := (.cons (.ret (.call "point_of" (.cons (.bin .add (.bin .mul (.idx (.var 0) (.int 0)) (.idx (.var 1) (.int 1))) (.bin .mul (.idx (.var 1) (.int 0)) (.idx (.var 0) (.int 1)))) (.cons (.bin .mul (.bin .mul (.int 2) (.idx (.var 0) (.int 1))) (.idx (.var 1) (.int 1))) .nil)))) .nil)
def dmiddle : Def := { nm := "middle", N := ["one", "other"], np := 2, args := defArgs (top 12), body := defBody (top 12), sc := defScope (top 12), ir := irmiddle }
def iris_point : ISs := (.cons (.ret (.call "is_point_form" (.cons (.var 0) .nil))) .nil)
def dis_point : Def := { nm := "is_point", N := ["thing"], np := 1, args := defArgs (top 14), body := defBody (top 14), sc := defScope (top 14), ir := iris_point }
def iris_lesser : ISs := (.cons (.expr (.call "need_point" (.cons (.var 0) .nil))) (.cons (.expr (.call "need_point" (.cons (.var 1) .nil))) (.cons (.ret (.call "lesser" (.cons (.var 0) (.cons (.var 1) .nil)))) .nil)))
def dis_lesser : Def := { nm := "is_lesser", N := ["one", "other"], np := 2, args := defArgs (top 15), body := defBody (top 15), sc := defScope (top 15), ir := iris_lesser }
def irbetween : ISs := (.cons (.expr (.call "need_point" (.cons (.var 0) .nil))) (.cons (.expr (.call "need_point" (.cons (.var 1) .nil))) (.cons (.ret (.call "middle" (.cons (.var 0) (.cons (.var 1) .nil)))) .nil)))
def dbetween : Def := { nm := "between", N := ["one", "other"], np := 2, args := defArgs (top 16), body := defBody (top 16), sc := defScope (top 16), ir := irbetween }
def ir_law_feed : ISs := (.cons (.asg (.n 2) (.bin .add (.bin .mul (.int 4201) (.var 1)) (.bin .mul (.int 79) (.bi .sum (.cons (.slc (.var 0) .omit (.int 3)) .nil))))) (.cons (.ite (.cmp .lt (.var 1) (.bi .len (.cons (.var 0) .nil))) (.cons (.asg (.n 2) (.idx (.var 0) (.var 1))) .nil) .nil) (.cons (.ret (.newl (.disp (.cons (.bi .max (.cons (.int 0) (.cons (.bin .sub (.var 2) (.bin .pow (.int 10) (.int 18))) .nil))) (.cons (.bin .mod (.bi .int (.cons (.bin .add (.bin .add (.bin .mul (.var 2) (.int 131)) (.bin .mul (.int 71) (.var 1))) (.int 83)) .nil)) (.bin .add (.bin .pow (.int 10) (.int 40)) (.int 121))) (.cons (.int 0) .nil)))))) .nil)))
def d_law_feed : Def := { nm := "_law_feed", N := ["script", "k", "cell"], np := 2, args := defArgs (top 18), body := defBody (top 18), sc := defScope (top 18), ir := ir_law_feed }
def ir_law_draw : ISs := (.cons (.ite (.cmp .gt (.idx (.var 0) (.int 0)) (.int 0)) (.cons (.asg (.n 2) (.bin .mod (.bi .int (.cons (.idx (.var 0) (.int 0)) .nil)) (.var 1))) (.cons (.seti (.var 0) (.int 0) (.bin .fdiv (.idx (.var 0) (.int 0)) (.var 1))) (.cons (.ret (.var 2)) .nil))) .nil) (.cons (.seti (.var 0) (.int 2) (.bin .add (.idx (.var 0) (.int 2)) (.int 1))) (.cons (.asg (.n 3) (.bin .add (.idx (.var 0) (.int 1)) (.bin .mul (.int 295075153) (.idx (.var 0) (.int 2))))) (.cons (.asg (.n 3) (.bin .mod (.bi .int (.cons (.bin .add (.bin .add (.bin .mul (.bin .mul (.var 3) (.var 3)) (.var 3)) (.bin .mul (.int 15485941) (.idx (.var 0) (.int 2)))) (.int 11)) .nil)) (.bin .add (.bin .pow (.int 10) (.int 41)) (.int 81)))) (.cons (.asg (.n 3) (.bin .mod (.bi .int (.cons (.bin .add (.bin .mul (.var 3) (.var 3)) (.int 982451653)) .nil)) (.bin .add (.bin .pow (.int 10) (.int 38)) (.int 133)))) (.cons (.ret (.bin .mod (.bi .int (.cons (.bin .fdiv (.var 3) (.bin .pow (.int 10) (.int 9))) .nil)) (.var 1))) .nil))))))
def d_law_draw : Def := { nm := "_law_draw", N := ["feed", "many", "got", "stir"], np := 2, args := defArgs (top 19), body := defBody (top 19), sc := defScope (top 19), ir := ir_law_draw }
def ir_law_one : ISs := (.cons (.ret (.idx (.var 1) (.call "_law_draw" (.cons (.var 0) (.cons (.bi .len (.cons (.var 1) .nil)) .nil))))) .nil)
def d_law_one : Def := { nm := "_law_one", N := ["feed", "things"], np := 2, args := defArgs (top 20), body := defBody (top 20), sc := defScope (top 20), ir := ir_law_one }
def ir_law_same : ISs := (.cons (.ite (.cmp .is (.var 1) .non) (.cons (.ret (.cmp .is (.var 0) .non)) .nil) .nil) (.cons (.ite (.isi (.var 1) .bool) (.cons (.ret (.and (.cons (.isi (.var 0) .bool) (.cons (.cmp .eq (.var 0) (.var 1)) .nil)))) .nil) .nil) (.cons (.ite (.isi (.var 1) .int) (.cons (.ret (.and (.cons (.isi (.var 0) .int) (.cons (.not (.isi (.var 0) .bool)) (.cons (.cmp .eq (.var 0) (.var 1)) .nil))))) .nil) .nil) (.cons (.ite (.isi (.var 1) .str) (.cons (.ret (.and (.cons (.isi (.var 0) .str) (.cons (.cmp .eq (.var 0) (.var 1)) .nil)))) .nil) .nil) (.cons (.ite (.or (.cons (.cmp .ne (.isi (.var 1) .list) (.isi (.var 0) .list)) (.cons (.not (.isi (.var 0) .seq)) (.cons (.cmp .ne (.bi .len (.cons (.var 0) .nil)) (.bi .len (.cons (.var 1) .nil))) .nil)))) (.cons (.ret (.bl false)) .nil) .nil) (.cons (.ret (.cmp .eq (.frz (.lc [2, 3] (.int 1) (.t (.cons (.n 2) (.cons (.n 3) .nil))) (.zip (.var 0) (.var 1)) (.cons (.not (.call "_law_same" (.cons (.var 2) (.cons (.var 3) .nil)))) .nil))) (.frz (.disp .nil)))) .nil))))))
def d_law_same : Def := { nm := "_law_same", N := ["told", "due", "one", "other"], np := 2, args := defArgs (top 21), body := defBody (top 21), sc := defScope (top 21), ir := ir_law_same }
def ir_law_common : ISs := (.cons (.for_ (.n 2) (.rng (.one (.int 80))) (.cons (.ite (.cmp .eq (.var 1) (.int 0)) (.cons .brk .nil) .nil) (.cons (.par [0, 1] (.cons (.var 1) (.cons (.bin .mod (.bi .int (.cons (.var 0) .nil)) (.var 1)) .nil))) .nil))) (.cons (.ret (.var 0)) .nil))
def d_law_common : Def := { nm := "_law_common", N := ["one", "other", "turn"], np := 2, args := defArgs (top 22), body := defBody (top 22), sc := defScope (top 22), ir := ir_law_common }
def ir_law_lowest : ISs := (.cons (.asg (.n 2) (.call "_law_common" (.cons (.bi .abs (.cons (.var 0) .nil)) (.cons (.var 1) .nil)))) (.cons (.ret (.tup (.cons (.bin .fdiv (.var 0) (.var 2)) (.cons (.bin .fdiv (.var 1) (.var 2)) .nil)))) .nil))
def d_law_lowest : Def := { nm := "_law_lowest", N := ["above", "below", "divisor"], np := 2, args := defArgs (top 23), body := defBody (top 23), sc := defScope (top 23), ir := ir_law_lowest }
def ir_law_point : ISs := (.cons (.asg (.n 1) (.call "_law_draw" (.cons (.var 0) (.cons (.int 6) .nil)))) (.cons (.ite (.cmp .eq (.var 1) (.int 0)) (.cons (.ret (.call "_law_lowest" (.cons (.bin .sub (.call "_law_draw" (.cons (.var 0) (.cons (.int 1999999) .nil))) (.int 999999)) (.cons (.bin .add (.int 1) (.call "_law_draw" (.cons (.var 0) (.cons (.int 999999) .nil)))) .nil)))) .nil) .nil) (.cons (.ite (.cmp .eq (.var 1) (.int 1)) (.cons (.ret (.call "_law_lowest" (.cons (.bin .sub (.call "_law_draw" (.cons (.var 0) (.cons (.int 2001) .nil))) (.int 1000)) (.cons (.bin .add (.int 999900) (.call "_law_draw" (.cons (.var 0) (.cons (.int 100) .nil)))) .nil)))) .nil) .nil) (.cons (.ite (.cmp .eq (.var 1) (.int 2)) (.cons (.ret (.call "_law_lowest" (.cons (.bin .mul (.bin .sub (.int 999999) (.call "_law_draw" (.cons (.var 0) (.cons (.int 3) .nil)))) (.bin .sub (.int 1) (.bin .mul (.int 2) (.call "_law_draw" (.cons (.var 0) (.cons (.int 2) .nil)))))) (.cons (.bin .add (.int 1) (.call "_law_draw" (.cons (.var 0) (.cons (.int 3) .nil)))) .nil)))) .nil) .nil) (.cons (.ret (.call "_law_lowest" (.cons (.bin .sub (.call "_law_draw" (.cons (.var 0) (.cons (.int 41) .nil))) (.int 20)) (.cons (.bin .add (.int 1) (.call "_law_draw" (.cons (.var 0) (.cons (.int 8) .nil)))) .nil)))) .nil)))))
def d_law_point : Def := { nm := "_law_point", N := ["feed", "way"], np := 1, args := defArgs (top 24), body := defBody (top 24), sc := defScope (top 24), ir := ir_law_point }
def ir_law_below : ISs := (.cons (.par [2, 3] (.cons (.bin .fdiv (.idx (.var 0) (.int 0)) (.idx (.var 0) (.int 1))) (.cons (.bin .fdiv (.idx (.var 1) (.int 0)) (.idx (.var 1) (.int 1))) .nil))) (.cons (.ite (.cmp .ne (.var 2) (.var 3)) (.cons (.ret (.cmp .lt (.var 2) (.var 3))) .nil) .nil) (.cons (.ret (.cmp .lt (.bin .mul (.bin .sub (.idx (.var 0) (.int 0)) (.bin .mul (.var 2) (.idx (.var 0) (.int 1)))) (.idx (.var 1) (.int 1))) (.bin .mul (.bin .sub (.idx (.var 1) (.int 0)) (.bin .mul (.var 3) (.idx (.var 1) (.int 1)))) (.idx (.var 0) (.int 1))))) .nil)))
def d_law_below : Def := { nm := "_law_below", N := ["one", "other", "first", "last"], np := 2, args := defArgs (top 25), body := defBody (top 25), sc := defScope (top 25), ir := ir_law_below }
def ir_law_middle_right : ISs := (.cons (.asg (.n 2) (.call "between" (.cons (.var 0) (.cons (.var 1) .nil)))) (.cons (.ite (.or (.cons (.not (.isi (.var 2) .tuple)) (.cons (.not (.call "_law_same" (.cons (.frz (.disp (.cons (.bi .len (.cons (.var 2) .nil)) (.cons (.callk "between" .nil (.cons (.var 0) (.cons (.var 1) .nil)) [1, 0]) (.cons (.call "between" (.cons (.var 0) (.cons (.var 0) .nil))) .nil))))) (.cons (.frz (.disp (.cons (.int 2) (.cons (.var 2) (.cons (.var 0) .nil))))) .nil)))) .nil))) (.cons (.ret (.bl false)) .nil) .nil) (.cons (.asg (.t (.cons (.n 3) (.cons (.n 4) .nil))) (.var 2)) (.cons (.ite (.or (.cons (.not (.call "_law_same" (.cons (.frz (.disp (.cons (.bin .mul (.var 3) (.int 0)) (.cons (.bin .mul (.var 4) (.int 0)) .nil)))) (.cons (.frz (.disp (.cons (.int 0) (.cons (.int 0) .nil)))) .nil)))) (.cons (.cmp .lt (.var 4) (.int 1)) (.cons (.cmp .ne (.call "_law_common" (.cons (.bi .abs (.cons (.var 3) .nil)) (.cons (.var 4) .nil))) (.int 1)) .nil)))) (.cons (.ret (.bl false)) .nil) .nil) (.cons (.ite (.cmp .ne (.bin .mul (.bin .mul (.bin .mul (.var 3) (.int 2)) (.idx (.var 0) (.int 1))) (.idx (.var 1) (.int 1))) (.bin .mul (.bin .add (.bin .mul (.idx (.var 0) (.int 0)) (.idx (.var 1) (.int 1))) (.bin .mul (.idx (.var 1) (.int 0)) (.idx (.var 0) (.int 1)))) (.var 4))) (.cons (.ret (.bl false)) .nil) .nil) (.cons (.ite (.and (.cons (.cmp .ne (.var 0) (.var 1)) (.cons (.or (.cons (.cmp .ne (.call "_law_below" (.cons (.var 0) (.cons (.var 2) .nil))) (.call "_law_below" (.cons (.var 0) (.cons (.var 1) .nil)))) (.cons (.cmp .ne (.call "_law_below" (.cons (.var 2) (.cons (.var 1) .nil))) (.call "_law_below" (.cons (.var 0) (.cons (.var 1) .nil)))) .nil))) .nil))) (.cons (.ret (.bl false)) .nil) .nil) (.cons (.asg (.n 5) (.and (.cons (.chain .le .le (.neg (.int 999999)) (.var 3) (.int 999999)) (.cons (.cmp .le (.var 4) (.int 999999)) .nil)))) (.cons (.ite (.not (.var 5)) (.cons (.ret (.cmp .is (.call "is_point" (.cons (.var 2) .nil)) (.bl false))) .nil) .nil) (.cons (.ret (.and (.cons (.cmp .is (.call "is_point" (.cons (.var 2) .nil)) (.bl true)) (.cons (.cmp .eq (.call "is_lesser" (.cons (.var 0) (.cons (.var 2) .nil))) (.call "_law_below" (.cons (.var 0) (.cons (.var 1) .nil)))) (.cons (.cmp .eq (.call "is_lesser" (.cons (.var 2) (.cons (.var 0) .nil))) (.call "_law_below" (.cons (.var 1) (.cons (.var 0) .nil)))) .nil))))) .nil)))))))))
def d_law_middle_right : Def := { nm := "_law_middle_right", N := ["one", "other", "told", "above", "below", "inside"], np := 2, args := defArgs (top 26), body := defBody (top 26), sc := defScope (top 26), ir := ir_law_middle_right }
def ir_law_forms_right : ISs := (.cons (.par [1, 2] (.cons (.bin .sub (.call "_law_draw" (.cons (.var 0) (.cons (.int 41) .nil))) (.int 20)) (.cons (.bin .sub (.call "_law_draw" (.cons (.var 0) (.cons (.int 24) .nil))) (.int 2)) .nil))) (.cons (.asg (.n 3) (.and (.cons (.cmp .gt (.var 2) (.int 0)) (.cons (.cmp .eq (.call "_law_common" (.cons (.bi .abs (.cons (.var 1) .nil)) (.cons (.var 2) .nil))) (.int 1)) .nil)))) (.cons (.ite (.not (.call "_law_same" (.cons (.call "is_point" (.cons (.tup (.cons (.var 1) (.cons (.var 2) .nil))) .nil)) (.cons (.var 3) .nil)))) (.cons (.ret (.bl false)) .nil) .nil) (.cons (.asg (.n 4) (.newl (.disp (.cons .non (.cons (.tup .nil) (.cons (.tup (.cons (.int 1) .nil)) (.cons (.tup (.cons (.int 1) (.cons (.int 2) (.cons (.int 3) .nil)))) (.cons (.frz (.disp (.cons (.int 1) (.cons (.int 2) .nil)))) (.cons (.tup (.cons (.int 1000000) (.cons (.int 1) .nil))) (.cons (.tup (.cons (.neg (.int 1000000)) (.cons (.int 1) .nil))) (.cons (.tup (.cons (.int 1) (.cons (.int 1000000) .nil))) (.cons (.tup (.cons (.int 1) (.cons (.int 0) .nil))) (.cons (.tup (.cons (.int 1) (.cons (.neg (.int 1)) .nil))) (.cons (.tup (.cons (.int 0) (.cons (.int 2) .nil))) (.cons (.tup (.cons (.int 6) (.cons (.int 4) .nil))) (.cons (.tup (.cons (.neg (.int 6)) (.cons (.int 4) .nil))) (.cons (.tup (.cons (.bl true) (.cons (.int 1) .nil))) .nil))))))))))))))))) (.cons (.expr (.meth .extend (.var 4) (.cons (.frz (.disp (.cons (.tup (.cons (.int 1) (.cons (.bl true) .nil))) (.cons (.tup (.cons (.int 0) (.cons (.bl true) .nil))) (.cons (.tup (.cons (.bl false) (.cons (.int 1) .nil))) (.cons (.tup (.cons (.str "1") (.cons (.int 1) .nil))) (.cons (.tup (.cons (.int 1) (.cons (.str "1") .nil))) (.cons (.tup (.cons (.int 1) (.cons .non .nil))) (.cons (.tup (.cons .non (.cons (.int 1) .nil))) (.cons (.int 1) (.cons (.str "12") (.cons (.frzd (.nil false)) (.cons (.tup (.cons (.tup (.cons (.int 1) (.cons (.int 2) .nil))) .nil)) (.cons (.tup (.cons (.int 1) (.cons (.tup (.cons (.int 2) .nil)) .nil))) (.cons (.tup (.cons (.int 999998) (.cons (.int 2) .nil))) (.cons (.tup (.cons (.int 0) (.cons (.int 0) .nil))) .nil)))))))))))))))) .nil))) (.cons (.ret (.and (.cons (.cmp .is (.callk "is_point" .nil (.cons (.call "_law_one" (.cons (.var 0) (.cons (.var 4) .nil))) .nil) [0]) (.bl false)) (.cons (.call "_law_same" (.cons (.frz (.disp (.cons (.call "is_point" (.cons (.tup (.cons (.int 0) (.cons (.int 1) .nil))) .nil)) (.cons (.call "is_point" (.cons (.tup (.cons (.neg (.int 999999)) (.cons (.int 999998) .nil))) .nil)) .nil)))) (.cons (.frz (.disp (.cons (.bl true) (.cons (.bl true) .nil)))) .nil))) .nil)))) .nil))))))
def d_law_forms_right : Def := { nm := "_law_forms_right", N := ["feed", "above", "below", "due", "odd"], np := 1, args := defArgs (top 27), body := defBody (top 27), sc := defScope (top 27), ir := ir_law_forms_right }
def ir_law_right : ISs := (.cons (.asg (.n 1) (.newl (.lc [11] (.call "_law_point" (.cons (.var 0) .nil)) (.n 11) (.rng (.one (.int 4))) .nil))) (.cons (.asg (.t (.cons (.n 2) (.cons (.n 3) .nil))) (.idx (.var 1) (.int 0))) (.cons (.expr (.meth .append (.var 1) (.cons (.call "_law_lowest" (.cons (.var 2) (.cons (.bin .add (.bin .mod (.bi .int (.cons (.var 3) .nil)) (.int 999999)) (.int 1)) .nil))) .nil))) (.cons (.for_ (.n 4) (.seq (.var 1)) (.cons (.ite (.or (.cons (.cmp .isnot (.call "is_point" (.cons (.var 4) .nil)) (.bl true)) (.cons (.cmp .isnot (.call "is_lesser" (.cons (.var 4) (.cons (.var 4) .nil))) (.bl false)) .nil))) (.cons (.ret (.bl false)) .nil) .nil) (.cons (.asg (.n 5) (.frz (.disp (.cons (.bi .len (.cons (.frz (.lc [6] (.int 1) (.n 6) (.seq (.var 1)) (.cons (.call "is_lesser" (.cons (.var 6) (.cons (.var 4) .nil))) .nil))) .nil)) (.cons (.bi .len (.cons (.frz (.lc [6] (.int 1) (.n 6) (.seq (.var 1)) (.cons (.call "_law_below" (.cons (.var 6) (.cons (.var 4) .nil))) .nil))) .nil)) .nil))))) (.cons (.ite (.cmp .ne (.idx (.var 5) (.int 0)) (.idx (.var 5) (.int 1))) (.cons (.ret (.bl false)) .nil) .nil) (.cons (.for_ (.n 6) (.seq (.var 1)) (.cons (.asg (.n 7) (.cmp .lt (.bin .mul (.idx (.var 4) (.int 0)) (.idx (.var 6) (.int 1))) (.bin .mul (.idx (.var 6) (.int 0)) (.idx (.var 4) (.int 1))))) (.cons (.asg (.n 8) (.call "is_lesser" (.cons (.tup (.cons (.neg (.idx (.var 6) (.int 0))) (.cons (.idx (.var 6) (.int 1)) .nil))) (.cons (.tup (.cons (.neg (.idx (.var 4) (.int 0))) (.cons (.idx (.var 4) (.int 1)) .nil))) .nil)))) (.cons (.ite (.not (.call "_law_same" (.cons (.frz (.disp (.cons (.call "is_lesser" (.cons (.var 4) (.cons (.var 6) .nil))) (.cons (.callk "is_lesser" .nil (.cons (.var 6) (.cons (.var 4) .nil)) [1, 0]) (.cons (.var 8) (.cons (.call "_law_below" (.cons (.var 4) (.cons (.var 6) .nil))) .nil)))))) (.cons (.bin .mul (.frz (.disp (.cons (.var 7) .nil))) (.int 4)) .nil)))) (.cons (.ret (.bl false)) .nil) .nil) .nil)))) .nil))))) (.cons (.par [9, 10] (.cons (.call "_law_one" (.cons (.var 0) (.cons (.var 1) .nil))) (.cons (.call "_law_one" (.cons (.var 0) (.cons (.var 1) .nil))) .nil))) (.cons (.ret (.and (.cons (.call "_law_middle_right" (.cons (.var 9) (.cons (.var 10) .nil))) (.cons (.call "_law_middle_right" (.cons (.idx (.var 1) (.int 0)) (.cons (.idx (.var 1) (.int 4)) .nil))) (.cons (.call "_law_forms_right" (.cons (.var 0) .nil)) .nil))))) .nil))))))
def d_law_right : Def := { nm := "_law_right", N := ["feed", "points", "above", "below", "one", "ranks", "other", "due", "mirror", "first", "last", "turn"], np := 1, args := defArgs (top 28), body := defBody (top 28), sc := defScope (top 28), ir := ir_law_right }
def irlaw : ISs := (.cons (.for_ (.n 1) (.rng (.one (.bi .max (.cons (.int 1) (.cons (.bi .min (.cons (.bi .len (.cons (.var 0) .nil)) (.cons (.int 3) .nil))) .nil))))) (.cons (.asg (.n 2) (.call "_law_feed" (.cons (.var 0) (.cons (.var 1) .nil)))) (.cons (.for_ (.n 3) (.rng (.one (.int 3))) (.cons (.ite (.not (.call "_law_right" (.cons (.var 2) .nil))) (.cons (.ret (.bl false)) .nil) .nil) .nil)) .nil))) (.cons (.ret (.bl true)) .nil))
def dlaw : Def := { nm := "law", N := ["script", "k", "feed", "turn"], np := 1, args := defArgs (top 29), body := defBody (top 29), sc := defScope (top 29), ir := irlaw }
def kwl : List (Str × Nat × List Str × List Nat) := [("between", 0, ["other", "one"], [1, 0]), ("is_point", 0, ["thing"], [0]), ("is_lesser", 0, ["other", "one"], [1, 0])]
def T : Tb := { defs := [dis_integer, dcommon, dis_point_form, dneed_point, dlesser, dpoint_of, dmiddle, dis_point, dis_lesser, dbetween, d_law_feed, d_law_draw, d_law_one, d_law_same, d_law_common, d_law_lowest, d_law_point, d_law_below, d_law_middle_right, d_law_forms_right, d_law_right, dlaw], cst := [("LAST_NAME", 999999)], kws := kwl, exs := ["BadPoint"] }
theorem T_chk : T.defs.all (fun d => T.chk d && T.kwC d) = true := by decide +kernel
theorem bis_integer : BindOk T dis_integer := fun kV doc pm an cdv ct => ⟨fun us hl => match us, hl with
  | [_, _, _], _ => rfl, by
  refine List.forall_mem_cons.mpr ⟨?_, List.forall_mem_cons.mpr ⟨?_, List.forall_mem_cons.mpr ⟨?_, fun q hq => absurd hq List.not_mem_nil⟩⟩⟩
  · exact fun hn => absurd hn (by decide)
  · exact fun hn => absurd hn (by decide)
  · exact fun hn => absurd hn (by decide)
⟩
theorem bcommon : BindOk T dcommon := fun kV doc pm an cdv ct => ⟨fun us hl => match us, hl with
  | [_, _], _ => rfl, by
  refine List.forall_mem_cons.mpr ⟨?_, List.forall_mem_cons.mpr ⟨?_, List.forall_mem_cons.mpr ⟨?_, fun q hq => absurd hq List.not_mem_nil⟩⟩⟩
  · exact fun hn => absurd hn (by decide)
  · exact fun hn => absurd hn (by decide)
  · exact fun hn => absurd hn (by decide)
⟩
theorem bis_point_form : BindOk T dis_point_form := fun kV doc pm an cdv ct => ⟨fun us hl => match us, hl with
  | [_], _ => rfl, by
  refine List.forall_mem_cons.mpr ⟨?_, List.forall_mem_cons.mpr ⟨?_, List.forall_mem_cons.mpr ⟨?_, fun q hq => absurd hq List.not_mem_nil⟩⟩⟩
  · exact fun hn => absurd hn (by decide)
  · exact fun hn => absurd hn (by decide)
  · exact fun hn => absurd hn (by decide)
⟩
theorem bneed_point : BindOk T dneed_point := fun kV doc pm an cdv ct => ⟨fun us hl => match us, hl with
  | [_], _ => rfl, by
  refine List.forall_mem_cons.mpr ⟨?_, List.forall_mem_cons.mpr ⟨?_, List.forall_mem_cons.mpr ⟨?_, fun q hq => absurd hq List.not_mem_nil⟩⟩⟩
  · exact fun hn => absurd hn (by decide)
  · exact fun hn => absurd hn (by decide)
  · exact fun hn => absurd hn (by decide)
⟩
theorem blesser : BindOk T dlesser := fun kV doc pm an cdv ct => ⟨fun us hl => match us, hl with
  | [_, _], _ => rfl, by
  refine List.forall_mem_cons.mpr ⟨?_, List.forall_mem_cons.mpr ⟨?_, List.forall_mem_cons.mpr ⟨?_, fun q hq => absurd hq List.not_mem_nil⟩⟩⟩
  · exact fun hn => absurd hn (by decide)
  · exact fun hn => absurd hn (by decide)
  · exact fun hn => absurd hn (by decide)
⟩
theorem bpoint_of : BindOk T dpoint_of := fun kV doc pm an cdv ct => ⟨fun us hl => match us, hl with
  | [_, _], _ => rfl, by
  refine List.forall_mem_cons.mpr ⟨?_, List.forall_mem_cons.mpr ⟨?_, List.forall_mem_cons.mpr ⟨?_, fun q hq => absurd hq List.not_mem_nil⟩⟩⟩
  · exact fun hn => absurd hn (by decide)
  · exact fun hn => absurd hn (by decide)
  · exact fun hn => absurd hn (by decide)
⟩
theorem bmiddle : BindOk T dmiddle := fun kV doc pm an cdv ct => ⟨fun us hl => match us, hl with
  | [_, _], _ => rfl, by
  refine List.forall_mem_cons.mpr ⟨?_, List.forall_mem_cons.mpr ⟨?_, List.forall_mem_cons.mpr ⟨?_, fun q hq => absurd hq List.not_mem_nil⟩⟩⟩
  · exact fun hn => absurd hn (by decide)
  · exact fun hn => absurd hn (by decide)
  · exact fun hn => absurd hn (by decide)
⟩
theorem bis_point : BindOk T dis_point := fun kV doc pm an cdv ct => ⟨fun us hl => match us, hl with
  | [_], _ => rfl, by
  refine List.forall_mem_cons.mpr ⟨?_, List.forall_mem_cons.mpr ⟨?_, List.forall_mem_cons.mpr ⟨?_, fun q hq => absurd hq List.not_mem_nil⟩⟩⟩
  · exact fun hn => absurd hn (by decide)
  · exact fun hn us ws h1 h2 => match us, ws, h1, h2 with
    | [], [_], _, _ => rfl
  · exact fun hn => absurd hn (by decide)
⟩
theorem bis_lesser : BindOk T dis_lesser := fun kV doc pm an cdv ct => ⟨fun us hl => match us, hl with
  | [_, _], _ => rfl, by
  refine List.forall_mem_cons.mpr ⟨?_, List.forall_mem_cons.mpr ⟨?_, List.forall_mem_cons.mpr ⟨?_, fun q hq => absurd hq List.not_mem_nil⟩⟩⟩
  · exact fun hn => absurd hn (by decide)
  · exact fun hn => absurd hn (by decide)
  · exact fun hn us ws h1 h2 => match us, ws, h1, h2 with
    | [], [_, _], _, _ => rfl
⟩
theorem bbetween : BindOk T dbetween := fun kV doc pm an cdv ct => ⟨fun us hl => match us, hl with
  | [_, _], _ => rfl, by
  refine List.forall_mem_cons.mpr ⟨?_, List.forall_mem_cons.mpr ⟨?_, List.forall_mem_cons.mpr ⟨?_, fun q hq => absurd hq List.not_mem_nil⟩⟩⟩
  · exact fun hn us ws h1 h2 => match us, ws, h1, h2 with
    | [], [_, _], _, _ => rfl
  · exact fun hn => absurd hn (by decide)
  · exact fun hn => absurd hn (by decide)
⟩
theorem b_law_feed : BindOk T d_law_feed := fun kV doc pm an cdv ct => ⟨fun us hl => match us, hl with
  | [_, _], _ => rfl, by
  refine List.forall_mem_cons.mpr ⟨?_, List.forall_mem_cons.mpr ⟨?_, List.forall_mem_cons.mpr ⟨?_, fun q hq => absurd hq List.not_mem_nil⟩⟩⟩
  · exact fun hn => absurd hn (by decide)
  · exact fun hn => absurd hn (by decide)
  · exact fun hn => absurd hn (by decide)
⟩
theorem b_law_draw : BindOk T d_law_draw := fun kV doc pm an cdv ct => ⟨fun us hl => match us, hl with
  | [_, _], _ => rfl, by
  refine List.forall_mem_cons.mpr ⟨?_, List.forall_mem_cons.mpr ⟨?_, List.forall_mem_cons.mpr ⟨?_, fun q hq => absurd hq List.not_mem_nil⟩⟩⟩
  · exact fun hn => absurd hn (by decide)
  · exact fun hn => absurd hn (by decide)
  · exact fun hn => absurd hn (by decide)
⟩
theorem b_law_one : BindOk T d_law_one := fun kV doc pm an cdv ct => ⟨fun us hl => match us, hl with
  | [_, _], _ => rfl, by
  refine List.forall_mem_cons.mpr ⟨?_, List.forall_mem_cons.mpr ⟨?_, List.forall_mem_cons.mpr ⟨?_, fun q hq => absurd hq List.not_mem_nil⟩⟩⟩
  · exact fun hn => absurd hn (by decide)
  · exact fun hn => absurd hn (by decide)
  · exact fun hn => absurd hn (by decide)
⟩
theorem b_law_same : BindOk T d_law_same := fun kV doc pm an cdv ct => ⟨fun us hl => match us, hl with
  | [_, _], _ => rfl, by
  refine List.forall_mem_cons.mpr ⟨?_, List.forall_mem_cons.mpr ⟨?_, List.forall_mem_cons.mpr ⟨?_, fun q hq => absurd hq List.not_mem_nil⟩⟩⟩
  · exact fun hn => absurd hn (by decide)
  · exact fun hn => absurd hn (by decide)
  · exact fun hn => absurd hn (by decide)
⟩
theorem b_law_common : BindOk T d_law_common := fun kV doc pm an cdv ct => ⟨fun us hl => match us, hl with
  | [_, _], _ => rfl, by
  refine List.forall_mem_cons.mpr ⟨?_, List.forall_mem_cons.mpr ⟨?_, List.forall_mem_cons.mpr ⟨?_, fun q hq => absurd hq List.not_mem_nil⟩⟩⟩
  · exact fun hn => absurd hn (by decide)
  · exact fun hn => absurd hn (by decide)
  · exact fun hn => absurd hn (by decide)
⟩
theorem b_law_lowest : BindOk T d_law_lowest := fun kV doc pm an cdv ct => ⟨fun us hl => match us, hl with
  | [_, _], _ => rfl, by
  refine List.forall_mem_cons.mpr ⟨?_, List.forall_mem_cons.mpr ⟨?_, List.forall_mem_cons.mpr ⟨?_, fun q hq => absurd hq List.not_mem_nil⟩⟩⟩
  · exact fun hn => absurd hn (by decide)
  · exact fun hn => absurd hn (by decide)
  · exact fun hn => absurd hn (by decide)
⟩
theorem b_law_point : BindOk T d_law_point := fun kV doc pm an cdv ct => ⟨fun us hl => match us, hl with
  | [_], _ => rfl, by
  refine List.forall_mem_cons.mpr ⟨?_, List.forall_mem_cons.mpr ⟨?_, List.forall_mem_cons.mpr ⟨?_, fun q hq => absurd hq List.not_mem_nil⟩⟩⟩
  · exact fun hn => absurd hn (by decide)
  · exact fun hn => absurd hn (by decide)
  · exact fun hn => absurd hn (by decide)
⟩
theorem b_law_below : BindOk T d_law_below := fun kV doc pm an cdv ct => ⟨fun us hl => match us, hl with
  | [_, _], _ => rfl, by
  refine List.forall_mem_cons.mpr ⟨?_, List.forall_mem_cons.mpr ⟨?_, List.forall_mem_cons.mpr ⟨?_, fun q hq => absurd hq List.not_mem_nil⟩⟩⟩
  · exact fun hn => absurd hn (by decide)
  · exact fun hn => absurd hn (by decide)
  · exact fun hn => absurd hn (by decide)
⟩
theorem b_law_middle_right : BindOk T d_law_middle_right := fun kV doc pm an cdv ct => ⟨fun us hl => match us, hl with
  | [_, _], _ => rfl, by
  refine List.forall_mem_cons.mpr ⟨?_, List.forall_mem_cons.mpr ⟨?_, List.forall_mem_cons.mpr ⟨?_, fun q hq => absurd hq List.not_mem_nil⟩⟩⟩
  · exact fun hn => absurd hn (by decide)
  · exact fun hn => absurd hn (by decide)
  · exact fun hn => absurd hn (by decide)
⟩
theorem b_law_forms_right : BindOk T d_law_forms_right := fun kV doc pm an cdv ct => ⟨fun us hl => match us, hl with
  | [_], _ => rfl, by
  refine List.forall_mem_cons.mpr ⟨?_, List.forall_mem_cons.mpr ⟨?_, List.forall_mem_cons.mpr ⟨?_, fun q hq => absurd hq List.not_mem_nil⟩⟩⟩
  · exact fun hn => absurd hn (by decide)
  · exact fun hn => absurd hn (by decide)
  · exact fun hn => absurd hn (by decide)
⟩
theorem b_law_right : BindOk T d_law_right := fun kV doc pm an cdv ct => ⟨fun us hl => match us, hl with
  | [_], _ => rfl, by
  refine List.forall_mem_cons.mpr ⟨?_, List.forall_mem_cons.mpr ⟨?_, List.forall_mem_cons.mpr ⟨?_, fun q hq => absurd hq List.not_mem_nil⟩⟩⟩
  · exact fun hn => absurd hn (by decide)
  · exact fun hn => absurd hn (by decide)
  · exact fun hn => absurd hn (by decide)
⟩
theorem blaw : BindOk T dlaw := fun kV doc pm an cdv ct => ⟨fun us hl => match us, hl with
  | [_], _ => rfl, by
  refine List.forall_mem_cons.mpr ⟨?_, List.forall_mem_cons.mpr ⟨?_, List.forall_mem_cons.mpr ⟨?_, fun q hq => absurd hq List.not_mem_nil⟩⟩⟩
  · exact fun hn => absurd hn (by decide)
  · exact fun hn => absurd hn (by decide)
  · exact fun hn => absurd hn (by decide)
⟩
theorem T_bind : ∀ d ∈ T.defs, BindOk T d := List.forall_mem_cons.mpr ⟨bis_integer, List.forall_mem_cons.mpr ⟨bcommon, List.forall_mem_cons.mpr ⟨bis_point_form, List.forall_mem_cons.mpr ⟨bneed_point, List.forall_mem_cons.mpr ⟨blesser, List.forall_mem_cons.mpr ⟨bpoint_of, List.forall_mem_cons.mpr ⟨bmiddle, List.forall_mem_cons.mpr ⟨bis_point, List.forall_mem_cons.mpr ⟨bis_lesser, List.forall_mem_cons.mpr ⟨bbetween, List.forall_mem_cons.mpr ⟨b_law_feed, List.forall_mem_cons.mpr ⟨b_law_draw, List.forall_mem_cons.mpr ⟨b_law_one, List.forall_mem_cons.mpr ⟨b_law_same, List.forall_mem_cons.mpr ⟨b_law_common, List.forall_mem_cons.mpr ⟨b_law_lowest, List.forall_mem_cons.mpr ⟨b_law_point, List.forall_mem_cons.mpr ⟨b_law_below, List.forall_mem_cons.mpr ⟨b_law_middle_right, List.forall_mem_cons.mpr ⟨b_law_forms_right, List.forall_mem_cons.mpr ⟨b_law_right, List.forall_mem_cons.mpr ⟨blaw, fun q hq => absurd hq List.not_mem_nil⟩⟩⟩⟩⟩⟩⟩⟩⟩⟩⟩⟩⟩⟩⟩⟩⟩⟩⟩⟩⟩⟩
-- top 30 law at 29 names ['__name__', 'RoomError', 'BadPoint', '__name__', 'LAST_NAME', 'is_integer', '__name__', 'common', 'is_point_form', 'need_point', 'lesser', 'point_of', 'middle', '__name__', 'is_point', 'is_lesser', 'between', '__name__', '_law_feed', '_law_draw', '_law_one', '_law_same', '_law_common', '_law_lowest', '_law_point', '_law_below', '_law_middle_right', '_law_forms_right', '_law_right', 'law']

abbrev R : PySem.W.OpenRow := PySem.W.OpenLaw.row PySem.Challenge.rw_namerooms_k15_whole_points
abbrev hk : PySem.W.Hook := He.hookD 5 T.fa T.fn
def ob (s : PySem.W.SharedT) : He.AlD := He.obsDG 5 T.fa T.fn (HandSHeadRun.getT s)
theorem ob_eq (s : PySem.W.SharedT) : ob s = hk.obs s.abs := He.obsDG_eq (HandSHeadRun.getT_eq s)
def loose : List Str := ["RoomError", "BadPoint", "LAST_NAME", "is_integer", "common", "is_point_form", "need_point", "lesser", "point_of", "middle", "is_point", "is_lesser", "between", "_law_feed", "_law_draw", "_law_one", "_law_same", "_law_common", "_law_lowest", "_law_point", "_law_below", "_law_middle_right", "_law_forms_right", "_law_right"]
theorem run (w : World) : HandSHeadRun.RunEq R (PySem.W.view R.prog [29]) hk ob 4000 loose w := by
  intro os
  kernel_rfl
end K15

namespace K15
open PySem PySem.Spec PyProof.Rows L2 Nr
abbrev Ct : Type := List D → Hl → QE → XH → Prop
def sbN : Str → Str → Bool := fun _ _ => false
def ty : D → Bool
  | .obj _ => false
  | .exc _ => false
  | _ => true
theorem ty_tn {x : D} (L : Hl) (h : ty x = true) : ∃ n, tnOf L x = some n := by
  cases x <;> first | (cases h; done) | exact ⟨_, rfl⟩
def isI (a b : Int) : D → Bool
  | .int i => decide (a ≤ i) && decide (i ≤ b)
  | _ => false
def pf : D → Bool
  | .tup [p, q] => isI (-999999) 999999 p && isI 1 999999 q && (match p, q with
    | .int a, .int b => decide (Int.gcd a b = 1)
    | _, _ => false)
  | _ => false
def tyP : D → Bool
  | .tup [p, q] => ty p && ty q
  | x => ty x
/-! ### contracts -/
def c_is_integer (n : Nat) : Ct := fun xs L Q E => ∃ x a b, xs = [x, .int a, .int b] ∧ 1 ≤ n ∧ ty x = true ∧ Q (.bl (isI a b x)) L
def c_common (n : Nat) : Ct := fun xs L Q E => ∃ a b : Int, xs = [.int a, .int b] ∧ 1 ≤ n ∧ Q (.int (Int.gcd a b : Nat)) L
def c_is_point_form (n : Nat) : Ct := fun xs L Q E => ∃ x, xs = [x] ∧ 2 ≤ n ∧ tyP x = true ∧ Q (.bl (pf x)) L
def c_need_point (n : Nat) : Ct := fun xs L Q E => ∃ x, xs = [x] ∧ 3 ≤ n ∧ tyP x = true ∧ (if pf x = true then Q .non L else E "BadPoint" L)
def c_lesser (n : Nat) : Ct := fun xs L Q E => ∃ a b c d : Int, xs = [.tup [.int a, .int b], .tup [.int c, .int d]] ∧ 1 ≤ n ∧ (mulOk a d ∧ mulOk c b) ∧ Q (.bl (decide (a * d < c * b))) L
def c_point_of (n : Nat) : Ct := fun xs L Q E => ∃ a b : Int, xs = [.int a, .int b] ∧ 2 ≤ n ∧ (0 < b ∧ b < 2 ^ 100) ∧ Q (.tup [.int (a / (Int.gcd a b : Nat)), .int (b / (Int.gcd a b : Nat))]) L
def midA (a b c d : Int) : Int := a * d + c * b
def midB (b d : Int) : Int := 2 * b * d
def mid (a b c d : Int) : D := .tup [.int (midA a b c d / (Int.gcd (midA a b c d) (midB b d) : Nat)), .int (midB b d / (Int.gcd (midA a b c d) (midB b d) : Nat))]
def okB (a b c d : Int) : Prop := (-1000000 < a ∧ a < 1000000 ∧ 0 < b ∧ b < 1000000) ∧ (-1000000 < c ∧ c < 1000000 ∧ 0 < d ∧ d < 1000000)
def c_middle (n : Nat) : Ct := fun xs L Q E => ∃ a b c d : Int, xs = [.tup [.int a, .int b], .tup [.int c, .int d]] ∧ 3 ≤ n ∧ okB a b c d ∧ Q (mid a b c d) L
def c_is_point (n : Nat) : Ct := fun xs L Q E => ∃ x, xs = [x] ∧ 3 ≤ n ∧ tyP x = true ∧ Q (.bl (pf x)) L
def c_is_lesser (n : Nat) : Ct := fun xs L Q E => ∃ a b c d : Int, xs = [.tup [.int a, .int b], .tup [.int c, .int d]] ∧ 4 ≤ n ∧ pf (.tup [.int a, .int b]) = true ∧ pf (.tup [.int c, .int d]) = true ∧ Q (.bl (decide (a * d < c * b))) L
def c_between (n : Nat) : Ct := fun xs L Q E => ∃ a b c d : Int, xs = [.tup [.int a, .int b], .tup [.int c, .int d]] ∧ 4 ≤ n ∧ pf (.tup [.int a, .int b]) = true ∧ pf (.tup [.int c, .int d]) = true ∧ Q (mid a b c d) L

/-! feeds -/
def Fd (B : Int) (o : O) : Prop := ∃ u v w : Int, o = .lst [.int u, .int v, .int w] ∧ 0 ≤ u ∧ (0 ≤ v ∧ v < 2 ^ 140) ∧ (0 ≤ w ∧ w ≤ B)
def gd : Nat → D → Bool
  | 0, _ => false
  | _ + 1, .non => true
  | _ + 1, .bl _ => true
  | _ + 1, .int _ => true
  | _ + 1, .str _ => true
  | n + 1, .tup xs => decide (xs.length ≤ sizeLine) && xs.all (gd n)
  | n + 1, .lst xs => decide (xs.length ≤ sizeLine) && xs.all (gd n)
  | _, _ => false
def seqAt (L : Hl) (i : Nat) (T : D) (ts : List D) : Prop := T = .lst ts ∨ T = .tup ts ∨ ∃ p, p ≠ i ∧ T = .obj p ∧ L[p]? = some (.lst ts)
def feedAt (L : Hl) (i : Nat) (B : Int) : Prop := ∃ o, L[i]? = some o ∧ Fd B o ∧ B ≤ 100000000
def c_feed (n : Nat) : Ct := fun xs L Q E => ∃ (ns : List Int) (k : Int), xs = [.scr (ns.map .int), .int k] ∧ 1 ≤ n ∧ (ns.length ≤ 63 ∧ 0 ≤ k ∧ k ≤ 1000) ∧ ∀ o, Fd 0 o → Q (.obj L.length) (L ++ [o])
def c_draw (n : Nat) : Ct := fun xs L Q E => ∃ (i : Nat) (B m : Int), xs = [.obj i, .int m] ∧ 1 ≤ n ∧ feedAt L i B ∧ (1 ≤ m ∧ m < 2 ^ 1000) ∧ ∀ r o', 0 ≤ r → r < m → Fd (B + 1) o' → Q (.int r) (L.set i o')
def c_one (n : Nat) : Ct := fun xs L Q E => ∃ (i : Nat) (B : Int) (T : D) (ts : List D), xs = [.obj i, T] ∧ 2 ≤ n ∧ feedAt L i B ∧ seqAt L i T ts ∧ (ts ≠ [] ∧ ts.length ≤ 1000) ∧ ∀ x ∈ ts, ∀ o', Fd (B + 1) o' → Q x (L.set i o')
def c_same (n : Nat) : Ct := fun xs L Q E => ∃ x, xs = [x, x] ∧ gd n x = true ∧ Q (.bl true) L
def c_lcommon (n : Nat) : Ct := fun xs L Q E => ∃ a b : Int, xs = [.int a, .int b] ∧ 1 ≤ n ∧ (0 ≤ a ∧ 0 ≤ b ∧ b < 2 ^ 52) ∧ Q (.int (Int.gcd a b : Nat)) L
def c_lowest (n : Nat) : Ct := fun xs L Q E => ∃ a b : Int, xs = [.int a, .int b] ∧ 2 ≤ n ∧ (0 < b ∧ b < 2 ^ 52) ∧ Q (.tup [.int (a / (Int.gcd a b : Nat)), .int (b / (Int.gcd a b : Nat))]) L
def c_point (n : Nat) : Ct := fun xs L Q E => ∃ (i : Nat) (B : Int), xs = [.obj i] ∧ 3 ≤ n ∧ feedAt L i (B + 3) ∧ feedAt L i B ∧ ∀ p q o', pf (.tup [.int p, .int q]) = true → Fd (B + 4) o' → Q (.tup [.int p, .int q]) (L.set i o')
def c_below (n : Nat) : Ct := fun xs L Q E => ∃ a b c d : Int, xs = [.tup [.int a, .int b], .tup [.int c, .int d]] ∧ 1 ≤ n ∧ (0 < b ∧ b < 2 ^ 50 ∧ 0 < d ∧ d < 2 ^ 50 ∧ -(2 ^ 50) < a ∧ a < 2 ^ 50 ∧ -(2 ^ 50) < c ∧ c < 2 ^ 50) ∧ Q (.bl (decide (a * d < c * b))) L
def c_middle_right (n : Nat) : Ct := fun xs L Q E => ∃ a b c d : Int, xs = [.tup [.int a, .int b], .tup [.int c, .int d]] ∧ 7 ≤ n ∧ pf (.tup [.int a, .int b]) = true ∧ pf (.tup [.int c, .int d]) = true ∧ Q (.bl true) L
def c_forms_right (n : Nat) : Ct := fun xs L Q E => ∃ (i : Nat) (B : Int), xs = [.obj i] ∧ 7 ≤ n ∧ feedAt L i (B + 3) ∧ feedAt L i B ∧ ∀ o', Fd (B + 3) o' → Q (.bl true) (L.set i o')
def c_right (n : Nat) : Ct := fun xs L Q E => ∃ (i : Nat) (B : Int), xs = [.obj i] ∧ 8 ≤ n ∧ (∃ o, L[i]? = some o ∧ Fd B o) ∧ (0 ≤ B ∧ B + 100 ≤ 100000000) ∧ ∀ o', Fd (B + 100) o' → Q (.bl true) (L.set i o')
def c_law (n : Nat) : Ct := fun xs L Q E => ∃ ns : List Int, xs = [.scr (ns.map .int)] ∧ 9 ≤ n ∧ ns.length ≤ 63 ∧ ∀ L', Q (.bl true) L'
def specs (n : Nat) : List (Str × Ct) := [("is_integer", c_is_integer n), ("common", c_common n), ("is_point_form", c_is_point_form n), ("need_point", c_need_point n), ("lesser", c_lesser n), ("point_of", c_point_of n), ("middle", c_middle n), ("is_point", c_is_point n), ("is_lesser", c_is_lesser n), ("between", c_between n),
  ("_law_feed", c_feed n), ("_law_draw", c_draw n), ("_law_one", c_one n), ("_law_same", c_same n), ("_law_common", c_lcommon n), ("_law_lowest", c_lowest n), ("_law_point", c_point n), ("_law_below", c_below n), ("_law_middle_right", c_middle_right n), ("_law_forms_right", c_forms_right n), ("_law_right", c_right n), ("law", c_law n)]
def Ph (n : Nat) : Phi := fun f xs L Q E => ∃ c, (f, c) ∈ specs n ∧ c xs L Q E
section
variable {n : Nat} {xs : List D} {L : Hl} {Q : QE} {E : XH}
theorem u_is_integer (h : c_is_integer n xs L Q E) : Ph n "is_integer" xs L Q E := ⟨_, List.mem_of_getElem? (i := 0) rfl, h⟩
theorem u_common (h : c_common n xs L Q E) : Ph n "common" xs L Q E := ⟨_, List.mem_of_getElem? (i := 1) rfl, h⟩
theorem u_is_point_form (h : c_is_point_form n xs L Q E) : Ph n "is_point_form" xs L Q E := ⟨_, List.mem_of_getElem? (i := 2) rfl, h⟩
theorem u_need_point (h : c_need_point n xs L Q E) : Ph n "need_point" xs L Q E := ⟨_, List.mem_of_getElem? (i := 3) rfl, h⟩
theorem u_lesser (h : c_lesser n xs L Q E) : Ph n "lesser" xs L Q E := ⟨_, List.mem_of_getElem? (i := 4) rfl, h⟩
theorem u_point_of (h : c_point_of n xs L Q E) : Ph n "point_of" xs L Q E := ⟨_, List.mem_of_getElem? (i := 5) rfl, h⟩
theorem u_middle (h : c_middle n xs L Q E) : Ph n "middle" xs L Q E := ⟨_, List.mem_of_getElem? (i := 6) rfl, h⟩
theorem u_is_point (h : c_is_point n xs L Q E) : Ph n "is_point" xs L Q E := ⟨_, List.mem_of_getElem? (i := 7) rfl, h⟩
theorem u_is_lesser (h : c_is_lesser n xs L Q E) : Ph n "is_lesser" xs L Q E := ⟨_, List.mem_of_getElem? (i := 8) rfl, h⟩
theorem u_between (h : c_between n xs L Q E) : Ph n "between" xs L Q E := ⟨_, List.mem_of_getElem? (i := 9) rfl, h⟩
theorem u_feed (h : c_feed n xs L Q E) : Ph n "_law_feed" xs L Q E := ⟨_, List.mem_of_getElem? (i := 10) rfl, h⟩
theorem u_draw (h : c_draw n xs L Q E) : Ph n "_law_draw" xs L Q E := ⟨_, List.mem_of_getElem? (i := 11) rfl, h⟩
theorem u_one (h : c_one n xs L Q E) : Ph n "_law_one" xs L Q E := ⟨_, List.mem_of_getElem? (i := 12) rfl, h⟩
theorem u_same (h : c_same n xs L Q E) : Ph n "_law_same" xs L Q E := ⟨_, List.mem_of_getElem? (i := 13) rfl, h⟩
theorem u_lcommon (h : c_lcommon n xs L Q E) : Ph n "_law_common" xs L Q E := ⟨_, List.mem_of_getElem? (i := 14) rfl, h⟩
theorem u_lowest (h : c_lowest n xs L Q E) : Ph n "_law_lowest" xs L Q E := ⟨_, List.mem_of_getElem? (i := 15) rfl, h⟩
theorem u_point (h : c_point n xs L Q E) : Ph n "_law_point" xs L Q E := ⟨_, List.mem_of_getElem? (i := 16) rfl, h⟩
theorem u_below (h : c_below n xs L Q E) : Ph n "_law_below" xs L Q E := ⟨_, List.mem_of_getElem? (i := 17) rfl, h⟩
theorem u_middle_right (h : c_middle_right n xs L Q E) : Ph n "_law_middle_right" xs L Q E := ⟨_, List.mem_of_getElem? (i := 18) rfl, h⟩
theorem u_forms_right (h : c_forms_right n xs L Q E) : Ph n "_law_forms_right" xs L Q E := ⟨_, List.mem_of_getElem? (i := 19) rfl, h⟩
theorem u_right (h : c_right n xs L Q E) : Ph n "_law_right" xs L Q E := ⟨_, List.mem_of_getElem? (i := 20) rfl, h⟩
theorem u_law (h : c_law n xs L Q E) : Ph n "law" xs L Q E := ⟨_, List.mem_of_getElem? (i := 21) rfl, h⟩
end
end K15

namespace K15
open PySem PySem.Spec PyProof.Rows L2 Nr
/-! ### bodies -/
theorem b_is_integer {Φ : Phi} {n : Nat} {xs : List D} {L : Hl} {Q : QE} {E : XH} (h : c_is_integer n xs L Q E) : xs.length = 3 ∧ bodyK Φ sbN 3 iris_integer xs L Q E := by
  obtain ⟨x, a, b, rfl, _, hx, h⟩ := h
  refine ⟨rfl, ?_⟩
  obtain ⟨t, ht⟩ := ty_tn L hx
  unfold bodyK iris_integer
  simp only [semSs, semS, semE, semAnd, startD, List.map_cons, List.map_nil, List.length_cons, List.length_nil]
  refine ⟨x, rfl, ?_⟩
  simp only [ev_ty ht, ev_truth]
  cases e : tnIs .int t with
  | false =>
    refine fin_same ?_
    have : isI a b x = false := by cases x <;> first | rfl | (simp [tnOf, res] at ht; subst ht; cases e)
    rw [this] at h
    exact h
  | true =>
    refine ⟨x, rfl, ?_⟩
    simp only [ev_ty ht, ev_truth]
    cases x <;> first | (cases hx; done) | (simp [tnOf, res] at ht; subst ht; cases e; done) | skip
    · simp [tnOf, res] at ht
      subst ht
      exact fin_same h
    · rename_i i
      simp [tnOf, res] at ht
      subst ht
      refine ⟨_, rfl, _, rfl, ?_⟩
      simp only [ev_cmp]
      by_cases h1 : a ≤ i
      · simp only [h1, decide_true]
        refine ⟨_, rfl, ?_⟩
        simp only [ev_cmp]
        refine fin_same ?_
        simpa [isI, h1] using h
      · simp only [h1, decide_false]
        refine fin_same ?_
        simpa [isI, h1] using h
/-- Euclid's loop -/
theorem gcd_loop {N : DN} {L : Hl} : ∀ (n : Nat) (a b : Nat), b < n → N.nx [some (.int (Nat.gcd a b : Nat)), some (.int 0)] L →
    whileR (fun ds L k => ∃ d, ds[1]? = some (some d) ∧ cmpK .ne L d (.int 0) fun z => truthK L z fun b => k b L) (fun M ds L => ∃ d, ds[1]? = some (some d) ∧ ∃ d0, ds[0]? = some (some d0) ∧ ∃ d1, ds[1]? = some (some d1) ∧ binK .mod L d0 d1 fun z => True ∧ M.nx (setsD [0, 1] [d, z] ds) L) N n [some (.int (a : Nat)), some (.int (b : Nat))] L := by
  intro n
  induction n with
  | zero => intro a b h; omega
  | succ n ih =>
    intro a b hb h
    unfold whileR
    refine ⟨_, rfl, ?_⟩
    simp only [ev_cmp, ev_truth]
    by_cases hb0 : b = 0
    · subst hb0
      simp
      simpa using h
    · have hb1 : ¬ ((b : Int) = 0) := by omega
      simp only [hb1, decide_false, Bool.not_false, if_true]
      refine ⟨_, rfl, _, rfl, _, rfl, ?_⟩
      simp only [ev_bin]
      refine ⟨by omega, trivial, ?_⟩
      have e : ((a : Int) % (b : Int)) = ((a % b : Nat) : Int) := by omega
      show whileR _ _ _ n [some (.int b), some (.int ((a : Int) % (b : Int)))] L
      rw [e]
      refine ih b (a % b) ?_ ?_
      · have := Nat.mod_lt a (Nat.pos_of_ne_zero hb0)
        omega
      · have e2 : Nat.gcd b (a % b) = Nat.gcd a b := by rw [Nat.gcd_comm b (a % b), ← Nat.gcd_rec, Nat.gcd_comm]
        rw [e2]
        exact h
theorem abs_nat (i : Int) : (if i < 0 then -i else i) = (i.natAbs : Int) := by split <;> omega
theorem b_common {Φ : Phi} {n : Nat} {xs : List D} {L : Hl} {Q : QE} {E : XH} (h : c_common n xs L Q E) : xs.length = 2 ∧ bodyK Φ sbN 2 ircommon xs L Q E := by
  obtain ⟨a, b, rfl, _, h⟩ := h
  refine ⟨rfl, ?_⟩
  unfold bodyK ircommon
  simp only [semSs, semS, semE, semEs, startD, List.map_cons, List.map_nil, List.length_cons, List.length_nil, biK, abs_nat]
  refine ⟨_, rfl, _, rfl, trivial, b.natAbs + 1, ?_⟩
  refine gcd_loop _ _ _ (Nat.lt_succ_self _) ⟨_, rfl, fin_same ?_⟩
  exact h

theorem isI_int {a b : Int} {x : D} (h : isI a b x = true) : ∃ i, x = .int i ∧ a ≤ i ∧ i ≤ b := by
  cases x <;> first | (cases h; done) | skip
  rename_i i
  simp [isI] at h
  exact ⟨i, rfl, h.1, h.2⟩
theorem b_is_point_form {n : Nat} {xs : List D} {L : Hl} {Q : QE} {E : XH} (h : c_is_point_form (n + 1) xs L Q E) : xs.length = 1 ∧ bodyK (Ph n) sbN 1 iris_point_form xs L Q E := by
  obtain ⟨x, rfl, hn, hx, h⟩ := h
  refine ⟨rfl, ?_⟩
  have hty : ty x = true := by
    unfold tyP at hx
    split at hx
    · rfl
    · exact hx
  obtain ⟨t, ht⟩ := ty_tn L hty
  unfold bodyK iris_point_form
  simp only [semSs, semS, semE, semAnd, semOr, semEs, startD, List.map_cons, List.map_nil, List.length_cons, List.length_nil]
  refine ⟨x, rfl, ?_⟩
  simp only [ev_ty ht, ev_truth]
  by_cases hs : ∃ ys, x = .tup ys
  · obtain ⟨ys, rfl⟩ := hs
    simp [tnOf, res] at ht
    subst ht
    simp only [tnIs, Bool.not_true]
    refine ⟨_, rfl, ?_⟩
    simp only [biK, lenK, ev_res, ev_cmp, ev_truth]
    by_cases hl : ys.length = 2
    · match ys, hl with
      | [p, q], _ =>
        simp only [List.length_cons, List.length_nil]
        refine ⟨_, rfl, _, rfl, ?_⟩
        refine u_is_integer ⟨p, _, _, rfl, by omega, by simp [tyP] at hx; exact hx.1, ?_⟩
        simp only [ev_truth]
        cases h1 : isI (-999999) 999999 p with
        | false =>
          refine fin_same ?_
          simpa [pf, h1] using h
        | true =>
          simp only [Bool.not_true]
          refine ⟨_, rfl, _, rfl, ?_⟩
          refine u_is_integer ⟨q, _, _, rfl, by omega, by simp [tyP] at hx; exact hx.2, ?_⟩
          simp only [ev_truth]
          cases h2 : isI 1 999999 q with
          | false =>
            refine fin_same ?_
            simpa [pf, h1, h2] using h
          | true =>
            obtain ⟨i, rfl, _, _⟩ := isI_int h1
            obtain ⟨j, rfl, _, _⟩ := isI_int h2
            refine ⟨_, rfl, _, rfl, _, rfl, _, rfl, ?_⟩
            refine u_common ⟨i, j, rfl, by omega, ?_⟩
            simp only [ev_cmp]
            refine fin_same ?_
            have e : (((Int.gcd i j : Nat) : Int) = 1) ↔ Int.gcd i j = 1 := by omega
            simpa [pf, h1, h2, e] using h
    · have hl' : ¬ ((ys.length : Int) = 2) := by omega
      simp only [hl', decide_false, Bool.not_false]
      refine fin_same ?_
      have : pf (.tup ys) = false := by
        unfold pf
        split
        · rename_i p q e
          cases e
          exact absurd rfl hl
        · rfl
      rw [this] at h
      exact h
  · have h1 : tnIs .tuple t = false := by
      cases x <;> first | (simp [tnOf, res] at ht; subst ht; rfl) | exact absurd ⟨_, rfl⟩ hs | (cases hty; done)
    have h2 : pf x = false := by
      cases x <;> first | rfl | exact absurd ⟨_, rfl⟩ hs
    simp only [h1, Bool.not_false]
    refine fin_same ?_
    rw [h2] at h
    exact h
theorem b_need_point {n : Nat} {xs : List D} {L : Hl} {Q : QE} {E : XH} (h : c_need_point (n + 1) xs L Q E) : xs.length = 1 ∧ bodyK (Ph n) sbN 1 irneed_point xs L Q E := by
  obtain ⟨x, rfl, hn, hx, h⟩ := h
  refine ⟨rfl, ?_⟩
  unfold bodyK irneed_point
  simp only [semSs, semS, semE, semEs, startD, List.map_cons, List.map_nil, List.length_cons, List.length_nil]
  refine ⟨x, rfl, u_is_point_form ⟨x, rfl, by omega, hx, ?_⟩⟩
  simp only [ev_truth]
  cases hp : pf x with
  | false =>
    rw [hp] at h
    exact finX_same (ds := []) h
  | true =>
    rw [hp] at h
    exact fin_same h
theorem b_lesser {Φ : Phi} {n : Nat} {xs : List D} {L : Hl} {Q : QE} {E : XH} (h : c_lesser n xs L Q E) : xs.length = 2 ∧ bodyK Φ sbN 2 irlesser xs L Q E := by
  obtain ⟨a, b, c, d, rfl, hn, ⟨h1, h2⟩, h⟩ := h
  refine ⟨rfl, ?_⟩
  unfold bodyK irlesser
  simp only [semSs, semS, semE, semEs, startD, List.map_cons, List.map_nil, List.length_cons, List.length_nil, idxK, ev_res]
  refine ⟨_, rfl, _, rfl, _, rfl, _, rfl, ?_⟩
  simp only [ev_bin]
  refine ⟨h1, _, rfl, _, rfl, _, rfl, _, rfl, ?_⟩
  simp only [ev_bin]
  refine ⟨h2, ?_⟩
  simp only [ev_cmp]
  exact fin_same h
theorem log2_lt {b : Int} {k : Nat} (h0 : 0 < b) (h : b < 2 ^ k) : b.natAbs.log2 < k := by
  have h1 : b.natAbs < 2 ^ k := by
    have : ((b.natAbs : Nat) : Int) < ((2 ^ k : Nat) : Int) := by
      rw [Int.natAbs_of_nonneg (by omega)]
      simpa using h
    exact_mod_cast this
  exact (Nat.log2_lt (by omega)).mpr h1
theorem gcd_pos' {a b : Int} (h : 0 < b) : 0 < (Int.gcd a b : Nat) := Int.gcd_pos_of_ne_zero_right a (by omega)
theorem gcd_le' {a b : Int} (h : 0 < b) : ((Int.gcd a b : Nat) : Int) ≤ b := Int.le_of_dvd h (Int.gcd_dvd_right ..)
theorem div_ok {a b c : Int} {k : Nat} (hk : k ≤ 9000) (h0 : 0 < b) (h : b < 2 ^ k) : CDivW c (Int.gcd a b : Nat) := by
  have h1 := gcd_pos' (a := a) h0
  have h2 := gcd_le' (a := a) h0
  refine ⟨by omega, ?_⟩
  have := log2_lt (b := ((Int.gcd a b : Nat) : Int)) (k := k) (by omega) (by omega)
  omega
theorem b_point_of {n : Nat} {xs : List D} {L : Hl} {Q : QE} {E : XH} (h : c_point_of (n + 1) xs L Q E) : xs.length = 2 ∧ bodyK (Ph n) sbN 3 irpoint_of xs L Q E := by
  obtain ⟨a, b, rfl, hn, ⟨h1, h2⟩, h⟩ := h
  refine ⟨rfl, ?_⟩
  unfold bodyK irpoint_of
  simp only [semSs, semS, semE, semEs, semG, startD, List.map_cons, List.map_nil, List.length_cons, List.length_nil]
  refine ⟨_, rfl, _, rfl, u_common ⟨a, b, rfl, by omega, _, rfl, _, rfl, ?_⟩⟩
  have hd : ∀ c, CDivW c (Int.gcd a b : Nat) := fun c => div_ok (k := 100) (by decide) h1 h2
  simp only [ev_bin]
  refine ⟨hd _, _, rfl, _, rfl, ?_⟩
  simp only [ev_bin]
  exact ⟨hd _, by decide, fin_same h⟩
theorem pf_dest {x : D} (h : pf x = true) : ∃ a b : Int, x = .tup [.int a, .int b] ∧ -999999 ≤ a ∧ a ≤ 999999 ∧ 1 ≤ b ∧ b ≤ 999999 ∧ Int.gcd a b = 1 := by
  unfold pf at h
  split at h <;> try (cases h; done)
  simp only [Bool.and_eq_true] at h
  obtain ⟨⟨h1, h2⟩, h3⟩ := h
  obtain ⟨i, rfl, a1, a2⟩ := isI_int h1
  obtain ⟨j, rfl, b1, b2⟩ := isI_int h2
  exact ⟨i, j, rfl, a1, a2, b1, b2, of_decide_eq_true h3⟩
theorem pf_is {a b : Int} (h : pf (.tup [.int a, .int b]) = true) : -999999 ≤ a ∧ a ≤ 999999 ∧ 1 ≤ b ∧ b ≤ 999999 ∧ Int.gcd a b = 1 := by
  obtain ⟨i, j, e, r⟩ := pf_dest h
  cases e
  exact r
theorem mul_small {i j : Int} (h1 : -(2 ^ 64) < i) (h2 : i < 2 ^ 64) : mulOk i j := .inl (.inl ⟨h1, h2⟩)
theorem mul_smallR {i j : Int} (h1 : -(2 ^ 64) < j) (h2 : j < 2 ^ 64) : mulOk i j := .inl (.inr ⟨h1, h2⟩)
theorem b_middle {n : Nat} {xs : List D} {L : Hl} {Q : QE} {E : XH} (h : c_middle (n + 1) xs L Q E) : xs.length = 2 ∧ bodyK (Ph n) sbN 2 irmiddle xs L Q E := by
  obtain ⟨a, b, c, d, rfl, hn, ⟨⟨a1, a2, b1, b2⟩, c1, c2, d1, d2⟩, h⟩ := h
  refine ⟨rfl, ?_⟩
  unfold bodyK irmiddle
  simp only [semSs, semS, semE, semEs, startD, List.map_cons, List.map_nil, List.length_cons, List.length_nil, idxK, ev_res]
  refine ⟨_, rfl, _, rfl, _, rfl, _, rfl, ?_⟩
  simp only [ev_bin]
  refine ⟨mul_small (by omega) (by omega), _, rfl, _, rfl, _, rfl, _, rfl, ?_⟩
  simp only [ev_bin]
  refine ⟨mul_small (by omega) (by omega), _, rfl, _, rfl, ?_⟩
  simp only [ev_bin]
  refine ⟨mul_small (by omega) (by omega), _, rfl, _, rfl, ?_⟩
  simp only [ev_bin]
  refine ⟨mul_smallR (by omega) (by omega), u_point_of ⟨_, _, rfl, by omega, ⟨?_, ?_⟩, fin_same h⟩⟩
  · exact Int.mul_pos (by omega) (by omega)
  · have : 2 * b * d < 2000000 * 1000000 := Int.mul_lt_mul (by omega) (by omega) (by omega) (by omega)
    omega
theorem tyP_pair {a b : Int} : tyP (.tup [.int a, .int b]) = true := rfl
theorem b_is_point {n : Nat} {xs : List D} {L : Hl} {Q : QE} {E : XH} (h : c_is_point (n + 1) xs L Q E) : xs.length = 1 ∧ bodyK (Ph n) sbN 1 iris_point xs L Q E := by
  obtain ⟨x, rfl, hn, hx, h⟩ := h
  refine ⟨rfl, ?_⟩
  unfold bodyK iris_point
  simp only [semSs, semS, semE, semEs, startD, List.map_cons, List.map_nil, List.length_cons, List.length_nil]
  exact ⟨x, rfl, u_is_point_form ⟨x, rfl, by omega, hx, fin_same h⟩⟩
theorem b_is_lesser {n : Nat} {xs : List D} {L : Hl} {Q : QE} {E : XH} (h : c_is_lesser (n + 1) xs L Q E) : xs.length = 2 ∧ bodyK (Ph n) sbN 2 iris_lesser xs L Q E := by
  obtain ⟨a, b, c, d, rfl, hn, h1, h2, h⟩ := h
  refine ⟨rfl, ?_⟩
  obtain ⟨a1, a2, _⟩ := pf_is h1
  obtain ⟨c1, c2, _⟩ := pf_is h2
  unfold bodyK iris_lesser
  simp only [semSs, semS, semE, semEs, startD, List.map_cons, List.map_nil, List.length_cons, List.length_nil]
  refine ⟨_, rfl, u_need_point ⟨_, rfl, by omega, tyP_pair, ?_⟩⟩
  rw [if_pos h1]
  refine ⟨_, rfl, u_need_point ⟨_, rfl, by omega, tyP_pair, ?_⟩⟩
  rw [if_pos h2]
  exact ⟨_, rfl, _, rfl, u_lesser ⟨a, b, c, d, rfl, by omega, ⟨mul_small (by omega) (by omega), mul_small (by omega) (by omega)⟩, fin_same h⟩⟩
theorem b_between {n : Nat} {xs : List D} {L : Hl} {Q : QE} {E : XH} (h : c_between (n + 1) xs L Q E) : xs.length = 2 ∧ bodyK (Ph n) sbN 2 irbetween xs L Q E := by
  obtain ⟨a, b, c, d, rfl, hn, h1, h2, h⟩ := h
  refine ⟨rfl, ?_⟩
  obtain ⟨a1, a2, b1, b2, _⟩ := pf_is h1
  obtain ⟨c1, c2, d1, d2, _⟩ := pf_is h2
  unfold bodyK irbetween
  simp only [semSs, semS, semE, semEs, startD, List.map_cons, List.map_nil, List.length_cons, List.length_nil]
  refine ⟨_, rfl, u_need_point ⟨_, rfl, by omega, tyP_pair, ?_⟩⟩
  rw [if_pos h1]
  refine ⟨_, rfl, u_need_point ⟨_, rfl, by omega, tyP_pair, ?_⟩⟩
  rw [if_pos h2]
  exact ⟨_, rfl, _, rfl, u_middle ⟨a, b, c, d, rfl, by omega, by unfold okB; omega, fin_same h⟩⟩
end K15

namespace K15
open PySem PySem.Spec PyProof.Rows L2 Nr
theorem mul_wide {i j : Int} {a b : Nat} (h0 : 0 ≤ i) (h1 : i < 2 ^ a) (g0 : 0 ≤ j) (g1 : j < 2 ^ b) (hs : a + b < 1000000) : mulOk i j := by
  refine .inr ?_
  have f : ∀ (x : Int) (k : Nat), 0 ≤ x → x < 2 ^ k → x.natAbs.log2 ≤ k := fun x k h0 h => by
    by_cases e : x = 0
    · subst e; simp
    · exact Nat.le_of_lt (log2_lt (by omega) h)
  have := f i a h0 h1
  have := f j b g0 g1
  unfold CMulW
  omega
theorem ints_map : ∀ ns : List Int, intsOf (ns.map .int) = some ns
  | [] => rfl
  | n :: ns => by simp [intsOf, ints_map ns]
theorem cut_map (ns : List Int) (lo hi : Option Int) : Nr.cutD (ns.map .int) lo hi = (((ns.drop (HT.sIx ns.length 0 lo)).take (HT.sIx ns.length ns.length hi - HT.sIx ns.length 0 lo)).map .int) := by
  simp [Nr.cutD, List.map_take, List.map_drop]
theorem p10 : powC 10 18 ∧ powC 10 40 ∧ powC 10 41 ∧ powC 10 38 ∧ powC 10 9 := by unfold powC; decide
theorem b_feed {Φ : Phi} {n : Nat} {xs : List D} {L : Hl} {Q : QE} {E : XH} (h : c_feed n xs L Q E) : xs.length = 2 ∧ bodyK Φ sbN 3 ir_law_feed xs L Q E := by
  obtain ⟨ns, k, rfl, _, ⟨hl, hk, hk2⟩, h⟩ := h
  refine ⟨rfl, ?_⟩
  have rest : ∀ c : Int, semSs Φ sbN (.cons (.ret (.newl (.disp (.cons (.bi .max (.cons (.int 0) (.cons (.bin .sub (.var 2) (.bin .pow (.int 10) (.int 18))) .nil))) (.cons (.bin .mod (.bi .int (.cons (.bin .add (.bin .add (.bin .mul (.var 2) (.int 131)) (.bin .mul (.int 71) (.var 1))) (.int 83)) .nil)) (.bin .add (.bin .pow (.int 10) (.int 40)) (.int 121))) (.cons (.int 0) .nil)))))) .nil) (FinX L E) { nx := fun _ L' => Nr.Fin L Q .non L', rt := Nr.Fin L Q } [some (.scr (ns.map .int)), some (.int k), some (.int c)] L := by
    intro c
    simp only [semSs, semS, semE, semEs, semF]
    refine ⟨_, rfl, ?_⟩
    simp only [ev_bin, biK]
    refine ⟨p10.1, _, rfl, ?_⟩
    simp only [ev_bin]
    refine ⟨mul_smallR (by decide) (by decide), _, rfl, ?_⟩
    simp only [ev_bin, biK]
    refine ⟨mul_small (by decide) (by decide), p10.2.1, by decide, ?_, ?_⟩
    · show (3 : Nat) ≤ sizeLine
      decide
    · refine fin_same (h _ ⟨_, _, _, rfl, ?_, ⟨Int.emod_nonneg _ (by decide), ?_⟩, by omega, by omega⟩)
      · split <;> omega
      · exact Int.lt_trans (Int.emod_lt_of_pos _ (by decide)) (by decide)
  unfold bodyK ir_law_feed
  simp only [semSs, semS, semE, semEs, semG, startD, List.map_cons, List.map_nil, List.length_cons, List.length_nil]
  refine ⟨_, rfl, ?_⟩
  simp only [ev_bin]
  refine ⟨mul_small (by decide) (by decide), _, rfl, ?_⟩
  simp only [isOmit, partK, optI, if_true, slcK, ev_res, biK, Bool.false_eq_true, if_false]
  rw [cut_map]
  refine ⟨_, ints_map _, ?_⟩
  simp only [ev_bin]
  refine ⟨mul_small (by decide) (by decide), _, rfl, _, rfl, ?_⟩
  simp only [lenK, ev_res, ev_cmp, ev_truth]
  by_cases hlt : k < (ns.map D.int).length
  · rw [if_pos (by simpa using hlt)]
    refine ⟨_, rfl, _, rfl, ?_⟩
    simp only [idxK, ev_res]
    obtain ⟨j, rfl⟩ : ∃ j : Nat, k = j := ⟨k.toNat, by omega⟩
    have hj : j < (ns.map D.int).length := by omega
    refine ⟨_, (atI_nat hj).trans (List.getElem?_eq_getElem hj), ?_⟩
    rw [List.getElem_map]
    exact rest _
  · rw [if_neg (by simpa using hlt)]
    exact rest _
theorem feed_get {L : Hl} {i : Nat} {B : Int} (h : feedAt L i B) : ∃ u v w : Int, L[i]? = some (.lst [.int u, .int v, .int w]) ∧ 0 ≤ u ∧ (0 ≤ v ∧ v < 2 ^ 140) ∧ (0 ≤ w ∧ w ≤ B) ∧ B ≤ 100000000 := by
  obtain ⟨o, h1, ⟨u, v, w, rfl, h2, h3, h4⟩, h5⟩ := h
  exact ⟨u, v, w, h1, h2, h3, h4, h5⟩
theorem get_set {L : Hl} {i : Nat} {o o' : O} (h : L[i]? = some o) : (L.set i o')[i]? = some o' := List.getElem?_set_self (List.getElem?_eq_some_iff.mp h).1
theorem b_draw {Φ : Phi} {n : Nat} {xs : List D} {L : Hl} {Q : QE} {E : XH} (h : c_draw n xs L Q E) : xs.length = 2 ∧ bodyK Φ sbN 4 ir_law_draw xs L Q E := by
  obtain ⟨i, B, m, rfl, _, hf, ⟨m1, m2⟩, h⟩ := h
  obtain ⟨u, v, w, hL, hu, ⟨v1, v2⟩, ⟨w1, w2⟩, hB⟩ := feed_get hf
  refine ⟨rfl, ?_⟩
  have hm : ∀ x, CDivW x m := fun x => ⟨by omega, Nat.lt_trans (log2_lt (k := 1000) (by omega) m2) (by decide)⟩
  unfold bodyK ir_law_draw
  simp only [semSs, semS, semE, semEs, semG, startD, List.map_cons, List.map_nil, List.length_cons, List.length_nil]
  refine ⟨_, rfl, ?_⟩
  simp only [idxK, res_at hL]
  refine ⟨_, rfl, ?_⟩
  simp only [ev_cmp, ev_truth]
  by_cases h0 : 0 < u
  · rw [if_pos (by simpa using h0)]
    refine ⟨_, rfl, ?_⟩
    simp only [idxK, res_at hL]
    refine ⟨_, rfl, ?_⟩
    simp only [biK]
    refine ⟨_, rfl, ?_⟩
    simp only [ev_bin]
    refine ⟨by omega, _, rfl, ?_⟩
    simp only [idxK, res_at hL]
    refine ⟨_, rfl, _, rfl, ?_⟩
    simp only [ev_bin]
    refine ⟨hm _, _, rfl, ?_⟩
    refine ⟨_, 0, hL, rfl, _, rfl, fin_same (h _ _ (Int.emod_nonneg _ (by omega)) (Int.emod_lt_of_pos _ (by omega)) ⟨_, _, _, rfl, Int.ediv_nonneg hu (by omega), ⟨v1, v2⟩, w1, by omega⟩)⟩
  · rw [if_neg (by simpa using h0)]
    refine ⟨_, rfl, ?_⟩
    simp only [idxK, res_at hL]
    refine ⟨_, rfl, ?_⟩
    simp only [ev_bin]
    refine ⟨_, rfl, ?_⟩
    have hL2 : (L.set i (.lst [.int u, .int v, .int (w + 1)]))[i]? = some (.lst [.int u, .int v, .int (w + 1)]) := get_set hL
    refine ⟨_, 2, hL, rfl, ?_⟩
    show ∃ d, _
    refine ⟨_, rfl, ?_⟩
    simp only [List.set_cons_succ, List.set_cons_zero, idxK, res_at hL2]
    refine ⟨_, rfl, _, rfl, ?_⟩
    simp only [idxK, res_at hL2]
    refine ⟨_, rfl, ?_⟩
    simp only [ev_bin]
    refine ⟨mul_small (by decide) (by decide), ?_⟩
    generalize hs : v + 295075153 * (w + 1) = s
    have s1 : 0 ≤ s := by omega
    have s2 : s < 2 ^ 141 := by omega
    refine ⟨_, rfl, _, rfl, ?_⟩
    simp only [ev_bin]
    refine ⟨mul_wide s1 s2 s1 s2 (by decide), _, rfl, ?_⟩
    simp only [ev_bin]
    have ss0 : 0 ≤ s * s := Int.mul_nonneg s1 s1
    have ss : s * s < 2 ^ 282 := by
      have : s * s < 2 ^ 141 * 2 ^ 141 := by
        rcases Int.lt_or_le 0 s with z | z
        · exact Int.mul_lt_mul s2 (Int.le_of_lt s2) z (by decide)
        · have : s = 0 := by omega
          subst this
          decide
      exact this
    refine ⟨mul_wide ss0 ss s1 s2 (by decide), _, rfl, ?_⟩
    simp only [idxK, res_at hL2]
    refine ⟨_, rfl, ?_⟩
    simp only [ev_bin]
    refine ⟨mul_small (by decide) (by decide), ?_⟩
    simp only [biK, ev_bin]
    refine ⟨p10.2.2.1, by decide, ?_⟩
    generalize hq : (s * s * s + 15485941 * (w + 1) + 11) % ((10 : Int) ^ (41 : Int).toNat + 81) = q
    have q1 : 0 ≤ q := by rw [← hq]; exact Int.emod_nonneg _ (by decide)
    have q2 : q < 2 ^ 141 := by
      rw [← hq]
      exact Int.lt_trans (Int.emod_lt_of_pos _ (by decide)) (by decide)
    refine ⟨_, rfl, _, rfl, ?_⟩
    simp only [ev_bin]
    refine ⟨mul_wide q1 q2 q1 q2 (by decide), ?_⟩
    try simp only [biK, ev_bin]
    refine ⟨p10.2.2.2.1, by decide, _, rfl, ?_⟩
    refine ⟨p10.2.2.2.2, ?_⟩
    try simp only [ev_bin]
    refine ⟨⟨by decide, by decide⟩, ?_⟩
    try simp only [biK]
    refine ⟨_, rfl, ?_⟩
    try simp only [ev_bin]
    refine ⟨by omega, fin_same (h _ _ (Int.emod_nonneg _ (by omega)) (Int.emod_lt_of_pos _ (by omega)) ⟨_, _, _, rfl, hu, ⟨v1, v2⟩, by omega, by omega⟩)⟩
end K15

namespace K15
open PySem PySem.Spec PyProof.Rows L2 Nr
theorem seq_res {L : Hl} {i : Nat} {T : D} {ts : List D} (h : seqAt L i T ts) : (res L T = .lst ts ∨ res L T = .tup ts) ∧ ∀ o, res (L.set i o) T = res L T := by
  rcases h with rfl | rfl | ⟨p, hp, rfl, h⟩
  · exact ⟨.inl rfl, fun _ => rfl⟩
  · exact ⟨.inr rfl, fun _ => rfl⟩
  · refine ⟨.inl (res_at h), fun o => ?_⟩
    have : (L.set i o)[p]? = some (.lst ts) := by rw [List.getElem?_set_ne (Ne.symm hp)]; exact h
    rw [res_at h, res_at this]
theorem b_one {n : Nat} {xs : List D} {L : Hl} {Q : QE} {E : XH} (h : c_one (n + 1) xs L Q E) : xs.length = 2 ∧ bodyK (Ph n) sbN 2 ir_law_one xs L Q E := by
  obtain ⟨i, B, T, ts, rfl, hn, hf, hT, ⟨t1, t2⟩, h⟩ := h
  obtain ⟨r1, r2⟩ := seq_res hT
  refine ⟨rfl, ?_⟩
  have hp : 1 ≤ ts.length := List.length_pos_iff.mpr t1
  unfold bodyK ir_law_one
  simp only [semSs, semS, semE, semEs, semG, startD, List.map_cons, List.map_nil, List.length_cons, List.length_nil]
  refine ⟨_, rfl, _, rfl, _, rfl, ?_⟩
  have hl : ∀ Q : D → Prop, Q (.int ts.length) → biK .len L [T] Q := fun Q q => by
    simp only [biK, lenK]
    rcases r1 with e | e <;> rw [e] <;> exact q
  refine hl _ (u_draw ⟨i, B, _, rfl, by omega, hf, ⟨by omega, ?_⟩, fun r o' h0 h1 ho => ?_⟩)
  · have : (ts.length : Int) ≤ 1000 := by omega
    omega
  · obtain ⟨j, rfl⟩ : ∃ j : Nat, r = j := ⟨r.toNat, by omega⟩
    have hj : j < ts.length := by omega
    have q : Q ts[j] (L.set i o') := h _ (List.getElem_mem hj) o' ho
    simp only [idxK, r2 o']
    have e2 : atI ts (j : Int) = some ts[j] := (atI_nat hj).trans (List.getElem?_eq_getElem hj)
    rcases r1 with e | e <;> rw [e] <;> exact ⟨_, e2, fin_same q⟩
/-! ### _law_same -/
theorem ev_cmpb (L : Hl) (Q : D → Prop) : (∀ a b : Bool, cmpK .eq L (.bl a) (.bl b) Q = Q (.bl (a == b))) ∧ (∀ a b : Bool, cmpK .ne L (.bl a) (.bl b) Q = Q (.bl (!(a == b)))) ∧ (∀ a b : Str, cmpK .eq L (.str a) (.str b) Q = Q (.bl (a == b))) := by
  refine ⟨fun a b => ?_, fun a b => ?_, fun a b => ?_⟩ <;> simp [cmpK, Nr.plain, res, deq, toP, PyData.eqv]
theorem zip_self : ∀ (xs : List D) (d : D), d ∈ zipD xs xs → ∃ y, y ∈ xs ∧ d = .tup [y, y]
  | [], d, h => by simp [zipD] at h
  | x :: xs, d, h => by
    rw [zipD] at h
    rcases List.mem_cons.mp h with rfl | h
    · exact ⟨x, List.mem_cons_self, rfl⟩
    · obtain ⟨y, h1, h2⟩ := zip_self xs d h
      exact ⟨y, List.mem_cons_of_mem _ h1, h2⟩
theorem same_seq {n : Nat} {x : D} {ys : List D} {L : Hl} {Q : QE} {E : XH} (hx : x = .tup ys ∨ x = .lst ys) (hg : ys.all (gd n) = true) (hz : ys.length ≤ sizeLine) (h : Q (.bl true) L) : bodyK (Ph n) sbN 4 ir_law_same [x, x] L Q E := by
  have z0 : (zipD ys ys).length ≤ sizeLine := by rw [zipD_len]; simpa using hz
  have fin : ∀ (s : Src), s = .fixed (zipD ys ys) → lcR s (fun x_1 L2 k => semG (.t (.cons (.n 2) (.cons (.n 3) .nil))) x_1 (wipeD ([some x, some x] ++ List.replicate (4 - 2) none) [2, 3]) fun ds2 => semIf (Ph n) (.cons (.not (.call "_law_same" (.cons (.var 2) (.cons (.var 3) .nil)))) .nil) NoE ds2 L2 fun b L3 => if b = true then k (some (.int 1)) L3 else k none L3)
      (fun xs L1 => 0 ≤ sizeLine ∧ cmpK .eq L1 (.lst xs) (.lst []) fun z => Nr.Fin L Q z L1) s.items [] L := by
    intro s hs
    subst hs
    refine lcR_filter (s := .fixed (zipD ys ys)) (fun _ => none) (show (Src.fixed (zipD ys ys)).ok L from trivial) (zipD ys ys) [] (by simpa using z0) (fun d hd k hk => ?_) ?_
    · obtain ⟨y, hy, rfl⟩ := zip_self ys d hd
      simp only [semG, semGs, semIf, semE, semEs]
      refine ⟨_, rfl, _, rfl, u_same ⟨y, rfl, List.all_eq_true.mp hg y hy, ?_⟩⟩
      simp only [ev_truth]
      exact hk
    · refine ⟨Nat.zero_le _, ?_⟩
      have e : (zipD ys ys).filterMap (fun _ => (none : Option D)) = [] := by
        generalize zipD ys ys = l
        induction l with
        | nil => rfl
        | cons a l ih => simpa using ih
      show cmpK .eq L (.lst ([] ++ (zipD ys ys).filterMap fun _ => none)) (.lst []) _
      rw [e]
      have : ∀ Q : D → Prop, Q (.bl true) → cmpK .eq L (.lst ([] ++ [])) (.lst []) Q := fun Q q => by simpa [cmpK, Nr.plain, res, deq, toP, toP.toPs, PyData.eqv, PyData.eqvAll] using q
      exact this _ (fin_same h)
  unfold bodyK ir_law_same
  simp only [semSs, semS, semE, semEs, semOr, semF, semI, startD, List.map_cons, List.map_nil, List.length_cons, List.length_nil]
  rcases hx with rfl | rfl
  · have ht : tnOf L (.tup ys) = some .tup := rfl
    refine ⟨_, rfl, ?_⟩
    simp only [ev_is, Nr.isNon, ev_truth, Bool.false_eq_true, if_false]
    refine ⟨_, rfl, ?_⟩
    simp only [ev_ty ht, tnIs, ev_truth, Bool.false_eq_true, if_false]
    refine ⟨_, rfl, ?_⟩
    simp only [ev_ty ht, tnIs, ev_truth, Bool.false_eq_true, if_false]
    refine ⟨_, rfl, ?_⟩
    simp only [ev_ty ht, tnIs, ev_truth, Bool.false_eq_true, if_false]
    refine ⟨_, rfl, ?_⟩
    simp only [ev_ty ht, tnIs]
    refine ⟨_, rfl, ?_⟩
    simp only [ev_ty ht, tnIs, ev_cmpb, ev_truth, beq_self_eq_true, Bool.not_true, Bool.false_eq_true, if_false]
    refine ⟨_, rfl, ?_⟩
    simp only [ev_ty ht, tnIs, ev_truth, Bool.not_true, Bool.false_eq_true, if_false]
    refine ⟨_, rfl, ?_⟩
    simp only [biK, lenK, ev_res]
    refine ⟨_, rfl, ?_⟩
    simp only [biK, lenK, ev_res, ev_cmp, ev_truth, decide_true, Bool.not_true, Bool.false_eq_true, if_false]
    refine ⟨_, rfl, _, rfl, ?_⟩
    exact fin _ rfl
  · have ht : tnOf L (.lst ys) = some .lst := rfl
    refine ⟨_, rfl, ?_⟩
    simp only [ev_is, Nr.isNon, ev_truth, Bool.false_eq_true, if_false]
    refine ⟨_, rfl, ?_⟩
    simp only [ev_ty ht, tnIs, ev_truth, Bool.false_eq_true, if_false]
    refine ⟨_, rfl, ?_⟩
    simp only [ev_ty ht, tnIs, ev_truth, Bool.false_eq_true, if_false]
    refine ⟨_, rfl, ?_⟩
    simp only [ev_ty ht, tnIs, ev_truth, Bool.false_eq_true, if_false]
    refine ⟨_, rfl, ?_⟩
    simp only [ev_ty ht, tnIs]
    refine ⟨_, rfl, ?_⟩
    simp only [ev_ty ht, tnIs, ev_cmpb, ev_truth, beq_self_eq_true, Bool.not_true, Bool.false_eq_true, if_false]
    refine ⟨_, rfl, ?_⟩
    simp only [ev_ty ht, tnIs, ev_truth, Bool.not_true, Bool.false_eq_true, if_false]
    refine ⟨_, rfl, ?_⟩
    simp only [biK, lenK, ev_res]
    refine ⟨_, rfl, ?_⟩
    simp only [biK, lenK, ev_res, ev_cmp, ev_truth, decide_true, Bool.not_true, Bool.false_eq_true, if_false]
    refine ⟨_, rfl, _, rfl, ?_⟩
    exact fin _ rfl
theorem b_same {n : Nat} {xs : List D} {L : Hl} {Q : QE} {E : XH} (h : c_same (n + 1) xs L Q E) : xs.length = 2 ∧ bodyK (Ph n) sbN 4 ir_law_same xs L Q E := by
  obtain ⟨x, rfl, hg, h⟩ := h
  refine ⟨rfl, ?_⟩
  cases x <;> first | (simp [gd] at hg; done) | skip
  · unfold bodyK ir_law_same
    simp only [semSs, semS, semE, semEs, semOr, semF, semI, startD, List.map_cons, List.map_nil, List.length_cons, List.length_nil]
    refine ⟨_, rfl, ?_⟩
    simp only [ev_is, Nr.isNon, ev_truth, if_true]
    refine ⟨_, rfl, ?_⟩
    simp only [Nr.isNon]
    exact fin_same h
  · rename_i b
    unfold bodyK ir_law_same
    simp only [semSs, semS, semE, semEs, semAnd, semOr, semF, semI, startD, List.map_cons, List.map_nil, List.length_cons, List.length_nil]
    have ht : tnOf L (.bl b) = some .bl := rfl
    refine ⟨_, rfl, ?_⟩
    simp only [ev_is, Nr.isNon, ev_truth, Bool.false_eq_true, if_false]
    refine ⟨_, rfl, ?_⟩
    simp only [ev_ty ht, tnIs, ev_truth, if_true]
    refine ⟨_, rfl, ?_⟩
    simp only [ev_ty ht, tnIs, ev_truth, if_true]
    refine ⟨_, rfl, _, rfl, ?_⟩
    simp only [ev_cmpb, beq_self_eq_true]
    exact fin_same h
  · rename_i i
    unfold bodyK ir_law_same
    simp only [semSs, semS, semE, semEs, semAnd, semOr, semF, semI, startD, List.map_cons, List.map_nil, List.length_cons, List.length_nil]
    have ht : tnOf L (.int i) = some .int := rfl
    refine ⟨_, rfl, ?_⟩
    simp only [ev_is, Nr.isNon, ev_truth, Bool.false_eq_true, if_false]
    refine ⟨_, rfl, ?_⟩
    simp only [ev_ty ht, tnIs, ev_truth, Bool.false_eq_true, if_false]
    refine ⟨_, rfl, ?_⟩
    simp only [ev_ty ht, tnIs, ev_truth, if_true]
    refine ⟨_, rfl, ?_⟩
    simp only [ev_ty ht, tnIs, ev_truth, if_true]
    refine ⟨_, rfl, ?_⟩
    simp only [ev_ty ht, tnIs, ev_truth, Bool.not_false, if_true]
    refine ⟨_, rfl, _, rfl, ?_⟩
    simp only [ev_cmp, decide_true]
    exact fin_same h
  · rename_i z
    unfold bodyK ir_law_same
    simp only [semSs, semS, semE, semEs, semAnd, semOr, semF, semI, startD, List.map_cons, List.map_nil, List.length_cons, List.length_nil]
    have ht : tnOf L (.str z) = some .str := rfl
    refine ⟨_, rfl, ?_⟩
    simp only [ev_is, Nr.isNon, ev_truth, Bool.false_eq_true, if_false]
    refine ⟨_, rfl, ?_⟩
    simp only [ev_ty ht, tnIs, ev_truth, Bool.false_eq_true, if_false]
    refine ⟨_, rfl, ?_⟩
    simp only [ev_ty ht, tnIs, ev_truth, Bool.false_eq_true, if_false]
    refine ⟨_, rfl, ?_⟩
    simp only [ev_ty ht, tnIs, ev_truth, if_true]
    refine ⟨_, rfl, ?_⟩
    simp only [ev_ty ht, tnIs, ev_truth, if_true]
    refine ⟨_, rfl, _, rfl, ?_⟩
    simp only [ev_cmpb, beq_self_eq_true]
    exact fin_same h
  · rename_i ys
    simp only [gd, Bool.and_eq_true, decide_eq_true_eq] at hg
    exact same_seq (.inl rfl) hg.2 hg.1 h
  · rename_i ys
    simp only [gd, Bool.and_eq_true, decide_eq_true_eq] at hg
    exact same_seq (.inr rfl) hg.2 hg.1 h
end K15

namespace K15
open PySem PySem.Spec PyProof.Rows L2 Nr
def tt : Nat → Nat × Nat
  | 0 => (1, 2)
  | n + 1 => ((tt n).2, (tt n).1 + (tt n).2)
def tf (n : Nat) : Nat := (tt n).1
theorem tf_step (n : Nat) : tf (n + 2) = tf (n + 1) + tf n := by
  show (tt n).1 + (tt n).2 = (tt n).2 + (tt n).1
  omega
theorem tf_big : 2 ^ 52 < tf 79 := by decide +kernel
/-- the loop's turn -/
def turnC (Φ : Phi) (E : XS) : D → DN → Ds → Hl → Prop := fun x M ds L => semG (.n 2) x ds fun ds1 => semSs Φ sbN (.cons (.ite (.cmp .eq (.var 1) (.int 0)) (.cons .brk .nil) .nil) (.cons (.par [0, 1] (.cons (.var 1) (.cons (.bin .mod (.bi .int (.cons (.var 0) .nil)) (.var 1)) .nil))) .nil)) E M ds1 L
theorem turnC_go {Φ : Phi} {E : XS} {x : D} {M : DN} {L : Hl} {a b : Nat} {t : Option D} (h0 : b = 0 → M.bk [some (.int (a : Nat)), some (.int 0), some x] L) (h1 : 0 < b → M.nx [some (.int (b : Nat)), some (.int ((a % b : Nat) : Int)), some x] L) : turnC Φ E x M [some (.int (a : Nat)), some (.int (b : Nat)), t] L := by
  unfold turnC
  simp only [semG, semSs, semS, semE, semEs]
  refine ⟨_, rfl, ?_⟩
  simp only [ev_cmp, ev_truth]
  by_cases hb : b = 0
  · subst hb
    simp
    exact h0 rfl
  · have hb1 : ¬ ((b : Int) = 0) := by omega
    simp only [hb1, decide_false, Bool.false_eq_true, if_false]
    refine ⟨_, rfl, _, rfl, ?_⟩
    simp only [biK]
    refine ⟨_, rfl, ?_⟩
    simp only [ev_bin]
    refine ⟨by omega, rfl, ?_⟩
    have e : ((a : Int) % (b : Int)) = ((a % b : Nat) : Int) := by omega
    show M.nx [some (.int b), some (.int ((a : Int) % (b : Int))), some x] L
    rw [e]
    exact h1 (by omega)
theorem gcd_step {a b : Nat} : Nat.gcd b (a % b) = Nat.gcd a b := by rw [Nat.gcd_comm b (a % b), ← Nat.gcd_rec, Nat.gcd_comm]
theorem euclid {Φ : Phi} {E : XS} {s : Src} {N : DN} {L : Hl} (ok : s.ok L) : ∀ (k : Nat) (l : List D), l.length = k → ∀ (a b : Nat) (t : Option D), b ≤ a → b < tf k → (∀ t, N.nx [some (.int (Nat.gcd a b : Nat)), some (.int 0), t] L) → forR s (turnC Φ E) N l [some (.int (a : Nat)), some (.int (b : Nat)), t] L := by
  intro k
  induction k using Nat.strongRecOn with
  | _ k ih =>
    intro l hl a b t hab hb hN
    match l, hl with
    | [], hl =>
      subst hl
      have : b = 0 := by have : tf ([] : List D).length = 1 := rfl; omega
      subst this
      exact ⟨ok, by simpa using hN t⟩
    | x :: xs, hl =>
      refine ⟨ok, turnC_go (fun h => ?_) fun hb0 => ?_⟩
      · subst h
        simpa using hN (some x)
      · have hr : a % b < b := Nat.mod_lt a hb0
        have hk : xs.length < k := by simp at hl; omega
        by_cases hs : a % b < tf xs.length
        · exact ih xs.length hk xs rfl b (a % b) _ (Nat.le_of_lt hr) hs (by rw [gcd_step]; exact hN)
        · match xs, hl, hs with
          | [], hl, hs =>
            have e0 : tf 0 = 1 := rfl
            have e1 : tf 1 = 2 := rfl
            simp at hl
            subst hl
            simp [e0] at hs
            omega
          | y :: ys, hl, hs =>
            have hk2 : k = ys.length + 2 := by simp at hl; omega
            have e := tf_step ys.length
            rw [hk2] at hb
            simp only [List.length_cons] at hs
            refine ⟨ok, turnC_go (fun h => ?_) fun hb1 => ?_⟩
            · rw [h] at hs
              exfalso
              have : ∀ n, 0 < tf n := fun n => by
                have : ∀ n, 0 < (tt n).1 ∧ 0 < (tt n).2 := fun n => by
                  induction n with
                  | zero => decide
                  | succ n ih => exact ⟨ih.2, by show 0 < (tt n).1 + (tt n).2; omega⟩
                exact (this n).1
              have := this (ys.length + 1)
              omega
            · have hr2 : b % (a % b) < a % b := Nat.mod_lt b hb1
              have hd : b % (a % b) + (a % b) ≤ b := by
                have h1 := Nat.div_add_mod b (a % b)
                have h2 : 1 ≤ b / (a % b) := (Nat.one_le_div_iff hb1).mpr (Nat.le_of_lt hr)
                have h3 : (a % b) * 1 ≤ (a % b) * (b / (a % b)) := Nat.mul_le_mul_left _ h2
                omega
              refine ih ys.length (by omega) ys rfl (a % b) (b % (a % b)) _ (Nat.le_of_lt hr2) (by omega) ?_
              rw [gcd_step, gcd_step]
              exact hN
theorem b_lcommon {Φ : Phi} {n : Nat} {xs : List D} {L : Hl} {Q : QE} {E : XH} (h : c_lcommon n xs L Q E) : xs.length = 2 ∧ bodyK Φ sbN 3 ir_law_common xs L Q E := by
  obtain ⟨a, b, rfl, _, ⟨h1, h2, h3⟩, h⟩ := h
  obtain ⟨a, rfl⟩ : ∃ j : Nat, a = j := ⟨a.toNat, by omega⟩
  obtain ⟨b, rfl⟩ : ∃ j : Nat, b = j := ⟨b.toNat, by omega⟩
  refine ⟨rfl, ?_⟩
  unfold bodyK ir_law_common
  rw [semSs]
  simp only [semS, semI, semR, semE]
  refine ⟨by unfold smallR; decide, ?_⟩
  have hl : ∃ x xs, (Src.fixed (rngD 0 80)).items = x :: xs ∧ xs.length = 79 := ⟨_, _, rfl, rfl⟩
  obtain ⟨x, xs, hx, hxl⟩ := hl
  rw [hx]
  have ok : (Src.fixed (rngD 0 80)).ok L := trivial
  have fin : ∀ t, semSs Φ sbN (.cons (.ret (.var 0)) .nil) (FinX L E) { nx := fun _ L' => Nr.Fin L Q .non L', rt := Nr.Fin L Q } [some (.int (Nat.gcd a b : Nat)), some (.int 0), t] L := fun t => by
    simp only [semSs, semS, semE]
    exact ⟨_, rfl, fin_same h⟩
  show forR _ (turnC Φ (FinX L E)) _ (x :: xs) [some (.int (a : Nat)), some (.int (b : Nat)), none] L
  refine ⟨ok, turnC_go (fun hb => ?_) fun hb => ?_⟩
  · subst hb
    have := fin (some x)
    simpa using this
  · have hr : a % b < b := Nat.mod_lt a hb
    refine euclid ok 79 xs hxl b (a % b) _ (Nat.le_of_lt hr) ?_ (by rw [gcd_step]; exact fin)
    have := tf_big
    have : b < 2 ^ 52 := by exact_mod_cast h3
    omega
theorem b_lowest {n : Nat} {xs : List D} {L : Hl} {Q : QE} {E : XH} (h : c_lowest (n + 1) xs L Q E) : xs.length = 2 ∧ bodyK (Ph n) sbN 3 ir_law_lowest xs L Q E := by
  obtain ⟨a, b, rfl, hn, ⟨h1, h2⟩, h⟩ := h
  refine ⟨rfl, ?_⟩
  have e : Int.gcd (if a < 0 then -a else a) b = Int.gcd a b := by split <;> simp
  unfold bodyK ir_law_lowest
  simp only [semSs, semS, semE, semEs, semG, startD, List.map_cons, List.map_nil, List.length_cons, List.length_nil]
  refine ⟨_, rfl, ?_⟩
  simp only [biK]
  refine ⟨_, rfl, u_lcommon ⟨_, b, rfl, by omega, ⟨by split <;> omega, by omega, h2⟩, ?_⟩⟩
  rw [e]
  refine ⟨_, rfl, _, rfl, ?_⟩
  have hd : ∀ c, CDivW c (Int.gcd a b : Nat) := fun c => div_ok (k := 52) (by decide) h1 h2
  simp only [ev_bin]
  refine ⟨hd _, _, rfl, _, rfl, ?_⟩
  simp only [ev_bin]
  exact ⟨hd _, by decide, fin_same h⟩

theorem Fd_mono {B C : Int} {o : O} (h : Fd B o) (hb : B ≤ C) : Fd C o := by
  obtain ⟨u, v, w, e, h1, h2, h3⟩ := h
  exact ⟨u, v, w, e, h1, h2, h3.1, by omega⟩
theorem feed_set {L : Hl} {i : Nat} {B C : Int} {o' : O} (h : feedAt L i B) (ho : Fd C o') (hC : C ≤ 100000000) : feedAt (L.set i o') i C := by
  obtain ⟨o, h1, _⟩ := h
  exact ⟨o', get_set h1, ho, hC⟩
theorem ediv_cmp {a b c d : Int} (hb : 0 < b) (hd : 0 < d) : (a / b < c / d → a * d < c * b) ∧ (c / d < a / b → c * b < a * d) := by
  have key : ∀ {a b c d : Int}, 0 < b → 0 < d → a / b < c / d → a * d < c * b := fun {a b c d} hb hd h => by
    have h1 : a < (a / b + 1) * b := Int.lt_ediv_add_one_mul_self a hb
    have h2 : c / d * d ≤ c := Int.ediv_mul_le c (by omega)
    have h3 : a * d < (a / b + 1) * b * d := Int.mul_lt_mul_of_pos_right h1 hd
    have h4 : (a / b + 1) * b ≤ c / d * b := Int.mul_le_mul_of_nonneg_right (by omega) (by omega)
    have h5 : (a / b + 1) * b * d ≤ c / d * b * d := Int.mul_le_mul_of_nonneg_right h4 (by omega)
    have h6 : c / d * d * b ≤ c * b := Int.mul_le_mul_of_nonneg_right h2 (by omega)
    have h7 : c / d * b * d = c / d * d * b := Int.mul_right_comm _ _ _
    omega
  exact ⟨key hb hd, key hd hb⟩
theorem b_below {Φ : Phi} {n : Nat} {xs : List D} {L : Hl} {Q : QE} {E : XH} (h : c_below n xs L Q E) : xs.length = 2 ∧ bodyK Φ sbN 4 ir_law_below xs L Q E := by
  obtain ⟨a, b, c, d, rfl, _, ⟨b1, b2, d1, d2, a1, a2, c1, c2⟩, h⟩ := h
  refine ⟨rfl, ?_⟩
  have hdb : ∀ x, CDivW x b := fun x => ⟨b1, Nat.lt_trans (log2_lt (k := 50) b1 b2) (by decide)⟩
  have hdd : ∀ x, CDivW x d := fun x => ⟨d1, Nat.lt_trans (log2_lt (k := 50) d1 d2) (by decide)⟩
  unfold bodyK ir_law_below
  simp only [semSs, semS, semE, semEs, semG, startD, List.map_cons, List.map_nil, List.length_cons, List.length_nil]
  refine ⟨_, rfl, ?_⟩
  try simp only [idxK, ev_res, ev_bin, ev_cmp, ev_truth]
  refine ⟨_, rfl, _, rfl, _, rfl, ?_⟩
  try simp only [idxK, ev_res, ev_bin, ev_cmp, ev_truth]
  refine ⟨hdb _, _, rfl, ?_⟩
  try simp only [idxK, ev_res, ev_bin, ev_cmp, ev_truth]
  refine ⟨_, rfl, _, rfl, _, rfl, ?_⟩
  try simp only [idxK, ev_res, ev_bin, ev_cmp, ev_truth]
  refine ⟨hdd _, by decide, _, rfl, _, rfl, ?_⟩
  try simp only [idxK, ev_res, ev_bin, ev_cmp, ev_truth]
  have e0 : ∀ x y : Int, (!decide (x = y)) = true ↔ x ≠ y := fun x y => by simp
  by_cases hq : a / b = c / d
  · rw [if_neg (by rw [e0]; exact fun z => z hq)]
    refine ⟨_, rfl, ?_⟩
    try simp only [idxK, ev_res, ev_bin, ev_cmp, ev_truth]
    refine ⟨_, rfl, _, rfl, _, rfl, ?_⟩
    try simp only [idxK, ev_res, ev_bin, ev_cmp, ev_truth]
    refine ⟨_, rfl, ?_⟩
    try simp only [idxK, ev_res, ev_bin, ev_cmp, ev_truth]
    have r1 : a - a / b * b = a % b := by rw [Int.emod_def, Int.mul_comm]
    have r2 : c - c / d * d = c % d := by rw [Int.emod_def, Int.mul_comm]
    have m1 := Int.emod_nonneg a (show b ≠ 0 by omega)
    have m2 := Int.emod_lt_of_pos a b1
    have m3 := Int.emod_nonneg c (show d ≠ 0 by omega)
    have m4 := Int.emod_lt_of_pos c d1
    refine ⟨mul_smallR (by omega) (by omega), _, rfl, ?_⟩
    try simp only [idxK, ev_res, ev_bin, ev_cmp, ev_truth]
    refine ⟨_, rfl, ?_⟩
    try simp only [idxK, ev_res, ev_bin, ev_cmp, ev_truth]
    refine ⟨mul_smallR (by omega) (by omega), _, rfl, ?_⟩
    try simp only [idxK, ev_res, ev_bin, ev_cmp, ev_truth]
    refine ⟨_, rfl, _, rfl, _, rfl, ?_⟩
    try simp only [idxK, ev_res, ev_bin, ev_cmp, ev_truth]
    refine ⟨_, rfl, ?_⟩
    try simp only [idxK, ev_res, ev_bin, ev_cmp, ev_truth]
    refine ⟨mul_smallR (by omega) (by omega), _, rfl, ?_⟩
    try simp only [idxK, ev_res, ev_bin, ev_cmp, ev_truth]
    refine ⟨_, rfl, ?_⟩
    try simp only [idxK, ev_res, ev_bin, ev_cmp, ev_truth]
    refine ⟨mul_smallR (by omega) (by omega), fin_same ?_⟩
    have e1 : (a - a / b * b) * d = a * d - a / b * b * d := Int.sub_mul ..
    have e2 : (c - c / d * d) * b = c * b - c / d * d * b := Int.sub_mul ..
    have e3 : c / d * b * d = c / d * d * b := Int.mul_right_comm ..
    rw [hq] at e1
    have : decide ((a - a / b * b) * d < (c - c / d * d) * b) = decide (a * d < c * b) := by
      rw [hq]
      exact decide_eq_decide.mpr (by omega)
    rw [this]
    exact h
  · rw [if_pos (by rw [e0]; exact hq)]
    refine ⟨_, rfl, _, rfl, ?_⟩
    try simp only [idxK, ev_res, ev_bin, ev_cmp, ev_truth]
    refine fin_same ?_
    obtain ⟨k1, k2⟩ := ediv_cmp (a := a) (c := c) b1 d1
    have : decide (a / b < c / d) = decide (a * d < c * b) := by
      refine decide_eq_decide.mpr ⟨k1, fun z => ?_⟩
      rcases Int.lt_or_le (a / b) (c / d) with y | y
      · exact y
      · have := k2 (by omega)
        omega
    rw [this]
    exact h
end K15

namespace K15
open PySem PySem.Spec PyProof.Rows L2 Nr
theorem div_bounds {a b : Int} (hb : 0 < b) (a1 : -999999 ≤ a) (a2 : a ≤ 999999) (g : Int) (hg : 0 < g) : -999999 ≤ a / g ∧ a / g ≤ 999999 := by
  constructor
  · have : (-999999 : Int) * g ≤ a := by
      have : (-999999 : Int) * g ≤ -999999 * 1 := Int.mul_le_mul_of_nonpos_left (by omega) (by omega)
      omega
    exact (Int.le_ediv_iff_mul_le hg).mpr this
  · by_cases h : 0 ≤ a
    · exact Int.le_trans (Int.ediv_le_self _ h) a2
    · have : a / g ≤ 0 := Int.ediv_nonpos_of_nonpos_of_neg (by omega) (by omega)
      omega
theorem low_pf {a b : Int} (hb : 0 < b) (b2 : b ≤ 999999) (a1 : -999999 ≤ a) (a2 : a ≤ 999999) : pf (.tup [.int (a / (Int.gcd a b : Nat)), .int (b / (Int.gcd a b : Nat))]) = true := by
  have hg := gcd_pos' (a := a) hb
  obtain ⟨k1, k2⟩ := div_bounds hb a1 a2 (Int.gcd a b : Nat) (by omega)
  have k3 : 0 < b / (Int.gcd a b : Nat) := Int.ediv_pos_of_pos_of_dvd hb (by omega) (Int.gcd_dvd_right ..)
  have k4 : b / (Int.gcd a b : Nat) ≤ 999999 := Int.le_trans (Int.ediv_le_self _ (by omega)) b2
  have k5 : Int.gcd (a / (Int.gcd a b : Nat)) (b / (Int.gcd a b : Nat)) = 1 := Int.gcd_ediv_gcd_ediv_gcd hg
  unfold pf
  simp only [Bool.and_eq_true]
  refine ⟨⟨?_, ?_⟩, ?_⟩
  · simp only [isI, Bool.and_eq_true, decide_eq_true_eq]
    exact ⟨k1, k2⟩
  · simp only [isI, Bool.and_eq_true, decide_eq_true_eq]
    exact ⟨by omega, k4⟩
  · exact decide_eq_true k5
theorem b_point {n : Nat} {xs : List D} {L : Hl} {Q : QE} {E : XH} (h : c_point (n + 1) xs L Q E) : xs.length = 1 ∧ bodyK (Ph n) sbN 2 ir_law_point xs L Q E := by
  obtain ⟨i, B, rfl, hn, ⟨o0, _, _, hB⟩, hf, h⟩ := h
  refine ⟨rfl, ?_⟩
  unfold bodyK ir_law_point
  simp only [semSs, semS, semE, semEs, semG, startD, List.map_cons, List.map_nil, List.length_cons, List.length_nil]
  refine ⟨_, rfl, u_draw ⟨i, B, _, rfl, by omega, hf, by decide, fun r o1 r0 r1 f1 => ?_⟩⟩
  have hf1 := feed_set hf f1 (by omega)
  refine ⟨_, rfl, ?_⟩
  simp only [ev_cmp, ev_truth]
  have fin : ∀ (a b : Int) (o' : O), 0 < b → b ≤ 999999 → -999999 ≤ a → a ≤ 999999 → Fd (B + 4) o' → ∀ L', L' = L.set i o' → Ph n "_law_lowest" [.int a, .int b] L' (Nr.Fin L Q) (fun c L2 => FinX L E c [] L2) := fun a b o' b1 b2 a1 a2 ho L' hL => by
    subst hL
    refine u_lowest ⟨a, b, rfl, by omega, ⟨b1, by omega⟩, fin_same (h _ _ o' (low_pf b1 b2 a1 a2) ho)⟩
  by_cases c0 : r = 0
  · rw [if_pos (by simpa using c0)]
    refine ⟨_, rfl, u_draw ⟨i, B + 1, _, rfl, by omega, hf1, by decide, fun r' o2 r0' r1' f2 => ?_⟩⟩
    have hf2 := feed_set hf1 f2 (by omega)
    simp only [ev_bin]
    refine ⟨_, rfl, u_draw ⟨i, B + 1 + 1, _, rfl, by omega, hf2, by decide, fun r2 o3 r02 r12 f3 => ?_⟩⟩
    simp only [ev_bin]
    exact fin _ _ o3 (by omega) (by omega) (by omega) (by omega) (Fd_mono f3 (by omega)) _ (by rw [List.set_set, List.set_set])
  · rw [if_neg (by simpa using c0)]
    refine ⟨_, rfl, ?_⟩
    simp only [ev_cmp, ev_truth]
    by_cases c1 : r = 1
    · rw [if_pos (by simpa using c1)]
      refine ⟨_, rfl, u_draw ⟨i, B + 1, _, rfl, by omega, hf1, by decide, fun r' o2 r0' r1' f2 => ?_⟩⟩
      have hf2 := feed_set hf1 f2 (by omega)
      simp only [ev_bin]
      refine ⟨_, rfl, u_draw ⟨i, B + 1 + 1, _, rfl, by omega, hf2, by decide, fun r2 o3 r02 r12 f3 => ?_⟩⟩
      simp only [ev_bin]
      exact fin _ _ o3 (by omega) (by omega) (by omega) (by omega) (Fd_mono f3 (by omega)) _ (by rw [List.set_set, List.set_set])
    · rw [if_neg (by simpa using c1)]
      refine ⟨_, rfl, ?_⟩
      simp only [ev_cmp, ev_truth]
      by_cases c2 : r = 2
      · rw [if_pos (by simpa using c2)]
        refine ⟨_, rfl, u_draw ⟨i, B + 1, _, rfl, by omega, hf1, by decide, fun r' o2 r0' r1' f2 => ?_⟩⟩
        have hf2 := feed_set hf1 f2 (by omega)
        simp only [ev_bin]
        refine ⟨_, rfl, u_draw ⟨i, B + 1 + 1, _, rfl, by omega, hf2, by decide, fun r2 o3 r02 r12 f3 => ?_⟩⟩
        have hf3 := feed_set hf2 f3 (by omega)
        simp only [ev_bin]
        refine ⟨mul_small (by decide) (by decide), mul_smallR (by omega) (by omega), _, rfl, u_draw ⟨i, B + 1 + 1 + 1, _, rfl, by omega, hf3, by decide, fun r3 o4 r03 r13 f4 => ?_⟩⟩
        simp only [ev_bin]
        have hr2 : r2 = 0 ∨ r2 = 1 := by omega
        have hb : -999999 ≤ (999999 - r') * (1 - 2 * r2) ∧ (999999 - r') * (1 - 2 * r2) ≤ 999999 := by
          rcases hr2 with z | z <;> subst z <;> omega
        exact fin _ _ o4 (by omega) (by omega) hb.1 hb.2 (Fd_mono f4 (by omega)) _ (by rw [List.set_set, List.set_set, List.set_set])
      · rw [if_neg (by simpa using c2)]
        refine ⟨_, rfl, u_draw ⟨i, B + 1, _, rfl, by omega, hf1, by decide, fun r' o2 r0' r1' f2 => ?_⟩⟩
        have hf2 := feed_set hf1 f2 (by omega)
        simp only [ev_bin]
        refine ⟨_, rfl, u_draw ⟨i, B + 1 + 1, _, rfl, by omega, hf2, by decide, fun r2 o3 r02 r12 f3 => ?_⟩⟩
        simp only [ev_bin]
        exact fin _ _ o3 (by omega) (by omega) (by omega) (by omega) (Fd_mono f3 (by omega)) _ (by rw [List.set_set, List.set_set])
/-! ### _law_middle_right -/
theorem mid_facts {a b c d : Int} (h1 : -999999 ≤ a ∧ a ≤ 999999 ∧ 1 ≤ b ∧ b ≤ 999999) (h2 : -999999 ≤ c ∧ c ≤ 999999 ∧ 1 ≤ d ∧ d ≤ 999999) :
    ∃ p q g : Int, mid a b c d = .tup [.int p, .int q] ∧ 0 < g ∧ p * g = midA a b c d ∧ q * g = midB b d ∧ 0 < q ∧ q ≤ 2000000000000 ∧ -2000000000000 ≤ p ∧ p ≤ 2000000000000 ∧ Int.gcd p q = 1 := by
  have hd0 : 0 < midB b d := by
    unfold midB
    exact Int.mul_pos (by omega) (by omega)
  have hb2 : midB b d ≤ 2000000000000 := by
    unfold midB
    have : 2 * b * d ≤ 1999998 * 999999 := Int.mul_le_mul (by omega) (by omega) (by omega) (by omega)
    omega
  have ha : -2000000000000 ≤ midA a b c d ∧ midA a b c d ≤ 2000000000000 := by
    unfold midA
    have f : ∀ {x y : Int}, -999999 ≤ x → x ≤ 999999 → 1 ≤ y → y ≤ 999999 → -1000000000000 ≤ x * y ∧ x * y ≤ 1000000000000 := fun {x y} x1 x2 y1 y2 => by
      constructor
      · have h1 : -999999 * y ≤ x * y := Int.mul_le_mul_of_nonneg_right x1 (by omega)
        omega
      · have h1 : x * y ≤ 999999 * y := Int.mul_le_mul_of_nonneg_right x2 (by omega)
        omega
    have := f h1.1 h1.2.1 h2.2.2.1 h2.2.2.2
    have := f h2.1 h2.2.1 h1.2.2.1 h1.2.2.2
    omega
  have hg := gcd_pos' (a := midA a b c d) hd0
  refine ⟨_, _, (Int.gcd (midA a b c d) (midB b d) : Nat), rfl, by omega, Int.ediv_mul_cancel (Int.gcd_dvd_left ..), Int.ediv_mul_cancel (Int.gcd_dvd_right ..), Int.ediv_pos_of_pos_of_dvd hd0 (by omega) (Int.gcd_dvd_right ..), Int.le_trans (Int.ediv_le_self _ (by omega)) hb2, ?_, ?_, Int.gcd_ediv_gcd_ediv_gcd hg⟩
  · refine (Int.le_ediv_iff_mul_le (by omega)).mpr ?_
    have : (-2000000000000 : Int) * (Int.gcd (midA a b c d) (midB b d) : Nat) ≤ -2000000000000 * 1 := Int.mul_le_mul_of_nonpos_left (by omega) (by omega)
    omega
  · by_cases hh : 0 ≤ midA a b c d
    · exact Int.le_trans (Int.ediv_le_self _ hh) ha.2
    · have := Int.ediv_nonpos_of_nonpos_of_neg (n := midA a b c d) (s := ((Int.gcd (midA a b c d) (midB b d) : Nat) : Int)) (by omega) (by omega)
      omega
theorem mid_same {a b : Int} (hb : 0 < b) (hg : Int.gcd a b = 1) : mid a b a b = .tup [.int a, .int b] := by
  unfold mid
  have e1 : midA a b a b = 2 * b * a := by unfold midA; rw [Int.mul_comm 2 b, Int.mul_assoc]; have : b * (2 * a) = b * a + b * a := by rw [Int.two_mul, Int.mul_add]
                                           rw [this, Int.mul_comm a b]
  have e2 : midB b b = 2 * b * b := rfl
  have e3 : Int.gcd (2 * b * a) (2 * b * b) = (2 * b).natAbs := by rw [Int.gcd_mul_left, hg, Nat.mul_one]
  have e4 : (((2 * b).natAbs : Nat) : Int) = 2 * b := by omega
  rw [e1, e2, e3, e4, Int.mul_ediv_cancel_left _ (by omega), Int.mul_ediv_cancel_left _ (by omega)]
theorem mid_comm {a b c d : Int} : mid c d a b = mid a b c d := by
  unfold mid
  have e1 : midA c d a b = midA a b c d := by unfold midA; exact Int.add_comm ..
  have e2 : midB d b = midB b d := by unfold midB; exact Int.mul_right_comm ..
  rw [e1, e2]
end K15

namespace K15
open PySem PySem.Spec PyProof.Rows L2 Nr
theorem ev_ne2 (L : Hl) (Q : D → Prop) (a b c d : Int) : cmpK .ne L (.tup [.int a, .int b]) (.tup [.int c, .int d]) Q = Q (.bl (!(a == c && b == d))) := by
  simp [cmpK, Nr.plain, res, deq, toP, toP.toPs, PyData.eqv, PyData.eqvAll]
theorem ev_isb (L : Hl) (Q : D → Prop) (a b : Bool) : cmpK .is L (.bl a) (.bl b) Q = Q (.bl (a == b)) ∧ cmpK .isnot L (.bl a) (.bl b) Q = Q (.bl (!(a == b))) := ⟨rfl, rfl⟩
theorem mid_order {a b c d p q g : Int} (hb : 0 < b) (hd : 0 < d) (hg : 0 < g) (h1 : p * g = midA a b c d) (h2 : q * g = midB b d) :
    (a * q < p * b ↔ a * d < c * b) ∧ (p * d < c * q ↔ a * d < c * b) ∧ (p * b < a * q ↔ c * b < a * d) := by
  have c1 : ∀ {x y k : Int}, 0 < k → (x * k < y * k ↔ x < y) := fun {x y k} hk => ⟨fun h => Int.lt_of_mul_lt_mul_right h (Int.le_of_lt hk), fun h => Int.mul_lt_mul_of_pos_right h hk⟩
  have e1 : a * q * g = (a * d + a * d) * b := by
    rw [Int.mul_assoc, h2]
    unfold midB
    rw [Int.mul_assoc 2 b d, Int.two_mul, Int.mul_add, Int.add_mul, Int.mul_comm b d, ← Int.mul_assoc]
  have e2 : p * b * g = (a * d + c * b) * b := by
    rw [Int.mul_right_comm, h1]
    rfl
  have e3 : p * d * g = (a * d + c * b) * d := by
    rw [Int.mul_right_comm, h1]
    rfl
  have e4 : c * q * g = (c * b + c * b) * d := by
    rw [Int.mul_assoc, h2]
    unfold midB
    rw [Int.mul_assoc 2 b d, Int.two_mul, Int.mul_add, Int.add_mul, ← Int.mul_assoc]
  refine ⟨?_, ?_, ?_⟩
  · rw [← c1 hg, e1, e2, c1 hb]
    omega
  · rw [← c1 hg, e3, e4, c1 hd]
    omega
  · rw [← c1 hg, e1, e2, c1 hb]
    omega
theorem mid_eq {a b c d p q g : Int} (h1 : p * g = midA a b c d) (h2 : q * g = midB b d) : p * 2 * b * d = (a * d + c * b) * q := by
  have e : p * 2 * b * d = p * (2 * b * d) := by rw [Int.mul_assoc, Int.mul_assoc, Int.mul_assoc]
  have e2 : (2 * b * d : Int) = q * g := h2.symm
  have e3 : a * d + c * b = p * g := h1.symm
  rw [e, e2, e3, Int.mul_right_comm p g q, Int.mul_assoc]
theorem b_middle_right {n : Nat} {xs : List D} {L : Hl} {Q : QE} {E : XH} (h : c_middle_right (n + 1) xs L Q E) : xs.length = 2 ∧ bodyK (Ph n) sbN 6 ir_law_middle_right xs L Q E := by
  obtain ⟨a, b, c, d, rfl, hn, p1, p2, h⟩ := h
  refine ⟨rfl, ?_⟩
  obtain ⟨a1, a2, b1, b2, g1⟩ := pf_is p1
  obtain ⟨c1, c2, d1, d2, g2⟩ := pf_is p2
  obtain ⟨p, q, g, em, hg, hp, hq, q1, q2, pp1, pp2, hpq⟩ := mid_facts ⟨a1, a2, b1, b2⟩ ⟨c1, c2, d1, d2⟩
  obtain ⟨o1, o2, o3⟩ := mid_order (by omega) (by omega) hg hp hq
  obtain ⟨k, rfl⟩ : ∃ k, n = k + 4 := ⟨n - 4, by omega⟩
  unfold bodyK ir_law_middle_right
  simp only [semSs, semS, semE, semEs, semOr, semAnd, semF, semG, semGs, startD, List.map_cons, List.map_nil, List.length_cons, List.length_nil]
  refine ⟨_, rfl, _, rfl, u_between ⟨a, b, c, d, rfl, by omega, p1, p2, ?_⟩⟩
  simp only [em]
  have ht : tnOf L (.tup [.int p, .int q]) = some .tup := rfl
  refine ⟨_, rfl, ?_⟩
  simp only [ev_ty ht, tnIs, ev_truth, Bool.not_true, Bool.false_eq_true, if_false]
  refine ⟨_, rfl, ?_⟩
  simp only [biK, lenK, ev_res]
  refine ⟨_, rfl, _, rfl, ⟨rfl, rfl⟩, u_between ⟨c, d, a, b, rfl, by omega, p2, p1, ?_⟩⟩
  refine ⟨_, rfl, _, rfl, u_between ⟨a, b, a, b, rfl, by omega, p1, p1, ?_⟩⟩
  rw [mid_comm, em, mid_same (by omega) g1]
  refine ⟨by decide, _, rfl, _, rfl, by decide, ?_⟩
  refine u_same ⟨_, rfl, by simp [gd]; decide, ?_⟩
  simp only [ev_truth, Bool.not_true, Bool.false_eq_true, if_false]
  refine ⟨_, rfl, ?_⟩
  simp only [semG, semGs]
  refine ⟨_, rfl, ?_⟩
  simp only [ev_bin]
  refine ⟨mul_smallR (by decide) (by decide), _, rfl, ?_⟩
  simp only [ev_bin]
  refine ⟨mul_smallR (by decide) (by decide), by decide, by decide, ?_⟩
  rw [Int.mul_zero, Int.mul_zero]
  refine u_same ⟨_, rfl, by simp [gd]; decide, ?_⟩
  simp only [ev_truth, Bool.not_true, Bool.false_eq_true, if_false]
  refine ⟨_, rfl, ?_⟩
  simp only [ev_cmp, ev_truth]
  rw [if_neg (by simp; omega)]
  refine ⟨_, rfl, ?_⟩
  simp only [biK]
  refine ⟨_, rfl, u_lcommon ⟨_, q, rfl, by omega, ⟨by split <;> omega, by omega, by omega⟩, ?_⟩⟩
  have e : Int.gcd (if p < 0 then -p else p) q = 1 := by rw [← hpq]; split <;> simp
  rw [e]
  simp only [ev_cmp, ev_truth]
  rw [if_neg (by simp)]
  refine ⟨_, rfl, ?_⟩
  simp only [ev_bin]
  refine ⟨mul_smallR (by decide) (by decide), _, rfl, ?_⟩
  simp only [idxK, ev_res]
  refine ⟨_, rfl, ?_⟩
  simp only [ev_bin]
  refine ⟨mul_smallR (by omega) (by omega), _, rfl, ?_⟩
  simp only [idxK, ev_res]
  refine ⟨_, rfl, ?_⟩
  simp only [ev_bin]
  refine ⟨mul_smallR (by omega) (by omega), _, rfl, ?_⟩
  simp only [idxK, ev_res]
  refine ⟨_, rfl, _, rfl, _, rfl, ?_⟩
  simp only [ev_bin]
  refine ⟨mul_small (by omega) (by omega), _, rfl, ?_⟩
  simp only [idxK, ev_res]
  refine ⟨_, rfl, _, rfl, _, rfl, ?_⟩
  simp only [ev_bin]
  refine ⟨mul_small (by omega) (by omega), _, rfl, mul_smallR (by omega) (by omega), ?_⟩
  simp only [ev_cmp, ev_truth]
  rw [if_neg (by simp; exact mid_eq hp hq)]
  refine ⟨_, rfl, _, rfl, ?_⟩
  simp only [ev_ne2, ev_truth]
  have bnd : 0 < b ∧ b < 2 ^ 50 ∧ 0 < d ∧ d < 2 ^ 50 ∧ -(2 ^ 50) < a ∧ a < 2 ^ 50 ∧ -(2 ^ 50) < c ∧ c < 2 ^ 50 := by omega
  have pfe : pf (.tup [.int p, .int q]) = (decide (-999999 ≤ p) && decide (p ≤ 999999) && decide (q ≤ 999999)) := by
    have : decide (1 ≤ q) = true := by simp; omega
    simp [pf, isI, hpq, this]
  have e1 : decide (a * q < p * b) = decide (a * d < c * b) := decide_eq_decide.mpr o1
  have e2 : decide (p * d < c * q) = decide (a * d < c * b) := decide_eq_decide.mpr o2
  have e3 : decide (p * b < a * q) = decide (c * b < a * d) := decide_eq_decide.mpr o3
  by_cases hne : (!(a == c && b == d)) = true
  all_goals first
    | (rw [if_pos hne]
       refine ⟨_, rfl, _, rfl, u_below ⟨a, b, p, q, rfl, by omega, by omega, ?_⟩⟩
       refine ⟨_, rfl, _, rfl, u_below ⟨a, b, c, d, rfl, by omega, by omega, ?_⟩⟩
       rw [e1]
       simp only [ev_cmpb, beq_self_eq_true, Bool.not_true, ev_truth, Bool.false_eq_true, if_false]
       refine ⟨_, rfl, _, rfl, u_below ⟨p, q, c, d, rfl, by omega, by omega, ?_⟩⟩
       refine ⟨_, rfl, _, rfl, u_below ⟨a, b, c, d, rfl, by omega, by omega, ?_⟩⟩
       rw [e2]
       simp only [ev_cmpb, beq_self_eq_true, Bool.not_true, ev_truth, Bool.false_eq_true, if_false])
    | (rw [if_neg hne, if_neg hne])
  all_goals
    refine ⟨_, rfl, ?_⟩
    simp only [ev_cmp]
    by_cases hA : -999999 ≤ p
    · simp only [hA, decide_true, ev_truth]
      by_cases hB : p ≤ 999999
      · simp only [hB, decide_true, if_true]
        refine ⟨_, rfl, ?_⟩
        simp only [ev_cmp]
        refine ⟨_, rfl, ?_⟩
        simp only [ev_truth]
        by_cases hC : q ≤ 999999
        · simp only [hC, decide_true, Bool.not_true, Bool.false_eq_true, if_false]
          have pt : pf (.tup [.int p, .int q]) = true := by rw [pfe]; simp [hA, hB, hC]
          refine ⟨_, rfl, u_is_point ⟨_, rfl, by omega, tyP_pair, ?_⟩⟩
          rw [pt]
          simp only [ev_isb, beq_self_eq_true, ev_truth, if_true]
          refine ⟨_, rfl, _, rfl, u_is_lesser ⟨a, b, p, q, rfl, by omega, p1, pt, ?_⟩⟩
          refine ⟨_, rfl, _, rfl, u_below ⟨a, b, c, d, rfl, by omega, by omega, ?_⟩⟩
          rw [e1]
          simp only [ev_cmpb, beq_self_eq_true, ev_truth, if_true]
          refine ⟨_, rfl, _, rfl, u_is_lesser ⟨p, q, a, b, rfl, by omega, pt, p1, ?_⟩⟩
          refine ⟨_, rfl, _, rfl, u_below ⟨c, d, a, b, rfl, by omega, by omega, ?_⟩⟩
          rw [e3]
          simp only [ev_cmpb, beq_self_eq_true]
          exact fin_same h
        · simp only [hC, decide_false, Bool.not_false, if_true]
          have pt : pf (.tup [.int p, .int q]) = false := by rw [pfe]; simp [hC]
          refine ⟨_, rfl, u_is_point ⟨_, rfl, by omega, tyP_pair, ?_⟩⟩
          rw [pt]
          simp only [ev_isb, beq_self_eq_true]
          exact fin_same h
      · simp only [hB, decide_false, Bool.false_eq_true, if_false]
        refine ⟨_, rfl, ?_⟩
        simp only [ev_truth, Bool.not_false, if_true]
        have pt : pf (.tup [.int p, .int q]) = false := by rw [pfe]; simp [hB]
        refine ⟨_, rfl, u_is_point ⟨_, rfl, by omega, tyP_pair, ?_⟩⟩
        rw [pt]
        simp only [ev_isb, beq_self_eq_true]
        exact fin_same h
    · simp only [hA, decide_false, ev_truth, Bool.false_eq_true, if_false]
      refine ⟨_, rfl, ?_⟩
      simp only [ev_truth, Bool.not_false, if_true]
      have pt : pf (.tup [.int p, .int q]) = false := by rw [pfe]; simp [hA]
      refine ⟨_, rfl, u_is_point ⟨_, rfl, by omega, tyP_pair, ?_⟩⟩
      rw [pt]
      simp only [ev_isb, beq_self_eq_true]
      exact fin_same h
end K15

namespace K15
open PySem PySem.Spec PyProof.Rows L2 Nr
def oddL : List D := [.non, .tup [], .tup [.int 1], .tup [.int 1, .int 2, .int 3], .lst [.int 1, .int 2], .tup [.int 1000000, .int 1], .tup [.int (-1000000), .int 1], .tup [.int 1, .int 1000000], .tup [.int 1, .int 0], .tup [.int 1, .int (-1)], .tup [.int 0, .int 2], .tup [.int 6, .int 4], .tup [.int (-6), .int 4], .tup [.bl true, .int 1]]
def oddM : List D := [.tup [.int 1, .bl true], .tup [.int 0, .bl true], .tup [.bl false, .int 1], .tup [.str "1", .int 1], .tup [.int 1, .str "1"], .tup [.int 1, .non], .tup [.non, .int 1], .int 1, .str "12", .dct false [] [], .tup [.tup [.int 1, .int 2]], .tup [.int 1, .tup [.int 2]], .tup [.int 999998, .int 2], .tup [.int 0, .int 0]]
theorem odd_bad : ((oddL ++ oddM).all fun x => tyP x && !pf x) = true := by decide +kernel
theorem pf_01 : pf (.tup [.int 0, .int 1]) = true := by decide +kernel
theorem pf_big : pf (.tup [.int (-999999), .int 999998]) = true := by decide +kernel
theorem feed_app {L : Hl} {i : Nat} {B : Int} {R : Hl} (h : feedAt L i B) : feedAt (L ++ R) i B := by
  obtain ⟨o, h1, h2⟩ := h
  have hi := (List.getElem?_eq_some_iff.mp h1).1
  exact ⟨o, by rw [List.getElem?_append_left hi]; exact h1, h2⟩
theorem feed_lt {L : Hl} {i : Nat} {B : Int} (h : feedAt L i B) : i < L.length := by
  obtain ⟨o, h1, h2⟩ := h
  exact (List.getElem?_eq_some_iff.mp h1).1
theorem fd_nonum {B : Int} {o : O} (h : Fd B o) : o.nonum = true := by
  obtain ⟨u, v, w, rfl, _⟩ := h
  rfl
theorem b_forms_right {n : Nat} {xs : List D} {L : Hl} {Q : QE} {E : XH} (h : c_forms_right (n + 1) xs L Q E) : xs.length = 1 ∧ bodyK (Ph n) sbN 5 ir_law_forms_right xs L Q E := by
  obtain ⟨i, B, rfl, hn, ⟨_, _, _, hB⟩, hf, h⟩ := h
  refine ⟨rfl, ?_⟩
  obtain ⟨k, rfl⟩ : ∃ k, n = k + 4 := ⟨n - 4, by omega⟩
  unfold bodyK ir_law_forms_right
  simp only [semSs, semS, semE, semEs, semAnd, semF, semG, startD, List.map_cons, List.map_nil, List.length_cons, List.length_nil]
  refine ⟨_, rfl, u_draw ⟨i, B, _, rfl, by omega, hf, by decide, fun r1 o1 r10 r11 f1 => ?_⟩⟩
  have hf1 := feed_set hf f1 (by omega)
  simp only [ev_bin]
  refine ⟨_, rfl, u_draw ⟨i, B + 1, _, rfl, by omega, hf1, by decide, fun r2 o2 r20 r21 f2 => ?_⟩⟩
  have hf2 := feed_set hf1 f2 (by omega)
  rw [List.set_set] at hf2 ⊢
  simp only [ev_bin]
  refine ⟨by decide, _, rfl, ?_⟩
  simp only [ev_cmp, ev_truth]
  generalize hp : r1 - 20 = p
  generalize hq : r2 - 2 = q
  have pfe : pf (.tup [.int p, .int q]) = (decide (0 < q) && decide (Int.gcd p q = 1)) := by
    have e1 : decide (-999999 ≤ p) = true := by simp; omega
    have e2 : decide (p ≤ 999999) = true := by simp; omega
    have e3 : decide (q ≤ 999999) = true := by simp; omega
    have e4 : decide (1 ≤ q) = decide (0 < q) := by apply decide_eq_decide.mpr; omega
    simp [pf, isI, e1, e2, e3, e4]
  by_cases hq0 : 0 < q
  all_goals first
    | (rw [if_pos (by simpa using hq0)]
       refine ⟨_, rfl, ?_⟩
       simp only [biK]
       refine ⟨_, rfl, u_lcommon ⟨_, q, rfl, by omega, ⟨by split <;> omega, by omega, by omega⟩, ?_⟩⟩
       have e : Int.gcd (if p < 0 then -p else p) q = Int.gcd p q := by split <;> simp
       rw [e]
       simp only [ev_cmp]
       have e2 : decide (((Int.gcd p q : Nat) : Int) = 1) = pf (.tup [.int p, .int q]) := by
         rw [pfe]
         have : (((Int.gcd p q : Nat) : Int) = 1) ↔ Int.gcd p q = 1 := by omega
         simp [hq0, this]
       rw [e2])
    | (rw [if_neg (by simpa using hq0)]
       have e2 : decide (0 < q) = pf (.tup [.int p, .int q]) := by
         rw [pfe]
         simp [hq0]
       rw [e2])
  all_goals
    refine ⟨_, rfl, _, rfl, by decide, u_is_point ⟨_, rfl, by omega, tyP_pair, ?_⟩⟩
    refine ⟨_, rfl, u_same ⟨_, rfl, by simp [gd], ?_⟩⟩
    simp only [ev_truth, Bool.not_true, Bool.false_eq_true, if_false]
    repeat (refine ⟨by decide, ?_⟩)
    have hi : i < (L.set i o2).length := feed_lt hf2
    have hN : (L.set i o2 ++ [O.lst oddL])[(L.set i o2).length]? = some (.lst oddL) := by simp
    refine ⟨_, rfl, ⟨_, res_at hN⟩, ?_⟩
    repeat (refine ⟨by decide, ?_⟩)
    try simp only [semD]
    repeat (refine ⟨by decide, ?_⟩)
    refine ⟨oddL, oddM, hN, rfl, (fun e => nomatch e), by decide, ?_⟩
    have hs : ∀ x y : O, (L.set i o2 ++ [x]).set (L.set i o2).length y = L.set i o2 ++ [y] := fun x y => by simp
    simp only [hs]
    have hM : (L.set i o2 ++ [O.lst (oddL ++ oddM)])[(L.set i o2).length]? = some (.lst (oddL ++ oddM)) := by simp
    refine ⟨_, rfl, _, rfl, u_one ⟨i, B + 1 + 1, _, oddL ++ oddM, rfl, by omega, feed_app hf2, .inr (.inr ⟨_, by omega, rfl, hM⟩), ⟨by decide, by decide⟩, fun x hx o3 f3 => ?_⟩⟩
    have hx2 := List.all_eq_true.mp odd_bad x hx
    simp only [Bool.and_eq_true, Bool.not_eq_true'] at hx2
    refine ⟨⟨rfl, rfl⟩, u_is_point ⟨x, rfl, by omega, hx2.1, ?_⟩⟩
    rw [hx2.2]
    simp only [ev_isb, beq_self_eq_true, ev_truth, if_true]
    refine ⟨by decide, u_is_point ⟨_, rfl, by omega, tyP_pair, ?_⟩⟩
    rw [pf_01]
    refine ⟨by decide, u_is_point ⟨_, rfl, by omega, tyP_pair, ?_⟩⟩
    rw [pf_big]
    refine ⟨by decide, by decide, u_same ⟨_, rfl, by simp [gd]; decide, ?_⟩⟩
    rw [List.set_append_left _ _ hi, List.set_set]
    exact fin_cut rfl (fd_nonum f3) (h o3 (Fd_mono f3 (by omega)))
end K15

namespace K15
open PySem PySem.Spec PyProof.Rows L2 Nr
def ltD : D → D → Bool
  | .tup [.int a, .int b], .tup [.int c, .int d] => decide (a * d < c * b)
  | _, _ => false
theorem ev_bi (L : Hl) (Q : D → Prop) : (∀ i, biK .int L [.int i] Q = Q (.int i)) ∧ (∀ xs, biK .len L [.lst xs] Q = Q (.int xs.length)) := ⟨fun _ => rfl, fun _ => rfl⟩
theorem ev_ix (L : Hl) (Q : D → Prop) (i : Int) (xs : List D) : idxK L (.tup xs) (.int i) Q = (∃ v, atI xs i = some v ∧ Q v) ∧ idxK L (.lst xs) (.int i) Q = (∃ v, atI xs i = some v ∧ Q v) := ⟨rfl, rfl⟩
theorem ix_at {L : Hl} {n : Nat} {xs : List D} (h : L[n]? = some (.lst xs)) (Q : D → Prop) (i : Int) : idxK L (.obj n) (.int i) Q = (∃ v, atI xs i = some v ∧ Q v) := by
  simp only [idxK, res_at h]
theorem e_add (L : Hl) (Q : D → Prop) (i j : Int) : binK .add L (.int i) (.int j) Q = Q (.int (i + j)) := rfl
theorem e_mul (L : Hl) (Q : D → Prop) (i j : Int) : binK .mul L (.int i) (.int j) Q = (mulOk i j ∧ Q (.int (i * j))) := rfl
theorem e_mod (L : Hl) (Q : D → Prop) (i j : Int) : binK .mod L (.int i) (.int j) Q = (0 < j ∧ Q (.int (i % j))) := rfl
theorem e_lt (L : Hl) (Q : D → Prop) (i j : Int) : cmpK .lt L (.int i) (.int j) Q = Q (.bl (decide (i < j))) := rfl
theorem src_at {L : Hl} {N : Nat} {xs : List D} (h : L[N]? = some (.lst xs)) (Q : Src → Prop) : srcK L (.obj N) Q = Q (.live N xs) := by
  simp [srcK, h]
theorem pf_neg {a b : Int} (h : pf (.tup [.int a, .int b]) = true) : pf (.tup [.int (-a), .int b]) = true := by
  obtain ⟨h1, h2, h3, h4, h5⟩ := pf_is h
  have e : Int.gcd (-a) b = 1 := by rw [← h5]; simp
  have k1 : decide (-999999 ≤ -a) = true := by simp; omega
  have k2 : decide (-a ≤ 999999) = true := by simp; omega
  have k3 : decide (1 ≤ b) = true := by simp; omega
  have k4 : decide (b ≤ 999999) = true := by simp; omega
  simp [pf, isI, e]
  omega
theorem lesser_of {n : Nat} {x y : D} {L : Hl} {Q : QE} {E : XH} (hn : 4 ≤ n) (hx : pf x = true) (hy : pf y = true) (h : Q (.bl (ltD x y)) L) : Ph n "is_lesser" [x, y] L Q E := by
  obtain ⟨a, b, rfl, _⟩ := pf_dest hx
  obtain ⟨c, d, rfl, _⟩ := pf_dest hy
  exact u_is_lesser ⟨a, b, c, d, rfl, hn, hx, hy, h⟩
theorem below_of {n : Nat} {x y : D} {L : Hl} {Q : QE} {E : XH} (hn : 1 ≤ n) (hx : pf x = true) (hy : pf y = true) (h : Q (.bl (ltD x y)) L) : Ph n "_law_below" [x, y] L Q E := by
  obtain ⟨a, b, rfl, _⟩ := pf_dest hx
  obtain ⟨c, d, rfl, _⟩ := pf_dest hy
  exact u_below ⟨a, b, c, d, rfl, hn, by omega, h⟩
theorem tyP_of {x : D} (hx : pf x = true) : tyP x = true := by
  obtain ⟨a, b, rfl, _⟩ := pf_dest hx
  rfl
theorem ltD_self {x : D} (hx : pf x = true) : ltD x x = false := by
  obtain ⟨a, b, rfl, _⟩ := pf_dest hx
  simp [ltD]
theorem mid_right_of {n : Nat} {x y : D} {L : Hl} {Q : QE} {E : XH} (hn : 7 ≤ n) (hx : pf x = true) (hy : pf y = true) (h : Q (.bl true) L) : Ph n "_law_middle_right" [x, y] L Q E := by
  obtain ⟨a, b, rfl, _⟩ := pf_dest hx
  obtain ⟨c, d, rfl, _⟩ := pf_dest hy
  exact u_middle_right ⟨a, b, c, d, rfl, hn, hx, hy, h⟩
/-- points are drawn -/
theorem pts_loop {n i : Nat} {L0 : Hl} {s : Src} {T : D → Hl → (Option D → Hl → Prop) → Prop} {Qc : List D → Hl → Prop} (hn : 3 ≤ n) (ok : ∀ L, s.ok L) (hi : i < L0.length) (hT : ∀ x L2 k, (∀ E', Ph n "_law_point" [.obj i] L2 (fun y L4 => k (some y) L4) E') → T x L2 k) :
    ∀ (items acc : List D) (C : Int) (o : O), Fd C o → 0 ≤ C → C + 4 * items.length ≤ 99999990 → (∀ x ∈ acc, pf x = true) → acc.length + items.length ≤ sizeLine → (∀ pts o', pts.length = acc.length + items.length → (∀ x ∈ pts, pf x = true) → Fd (C + 4 * items.length) o' → Qc pts (L0.set i o')) → ∀ L1, L1 = L0.set i o → lcR s T Qc items acc L1
  | [], acc, C, o, hf, _, _, ha, _, h, L1, hL => ⟨ok _, by subst hL; exact h acc o (by simp) ha (by simpa using hf)⟩
  | x :: xs, acc, C, o, hf, h0, hC, ha, hl, h, L1, hL => by
    subst hL
    refine ⟨ok _, hT x _ _ fun E' => ?_⟩
    simp only [List.length_cons] at hC hl h
    have e : (L0.set i o)[i]? = some o := List.getElem?_set_self hi
    refine u_point ⟨i, C, rfl, hn, ⟨o, e, Fd_mono hf (by omega), by omega⟩, ⟨o, e, hf, by omega⟩, fun p q o' hp ho => ?_⟩
    rw [List.set_set]
    refine ⟨by omega, pts_loop hn ok hi hT xs (acc ++ [.tup [.int p, .int q]]) (C + 4) o' ho (by omega) (by omega) (fun y hy => ?_) (by simp; omega) (fun pts o2 h1 h2 h3 => ?_) _ rfl⟩
    rotate_left
    · have : C + 4 + 4 * (xs.length : Int) = C + 4 * ((xs.length + 1 : Nat) : Int) := by omega
      rw [this] at h3
      exact h pts o2 (by simp at h1; omega) h2 h3
    rcases List.mem_append.mp hy with z | z
    · exact ha y z
    · simp at z
      subst z
      exact hp
theorem b_right {n : Nat} {xs : List D} {L : Hl} {Q : QE} {E : XH} (h : c_right (n + 1) xs L Q E) : xs.length = 1 ∧ bodyK (Ph n) sbN 12 ir_law_right xs L Q E := by
  obtain ⟨i, B, rfl, hn, ⟨o, ho, hf⟩, ⟨hB0, hB⟩, h⟩ := h
  refine ⟨rfl, ?_⟩
  have hi : i < L.length := (List.getElem?_eq_some_iff.mp ho).1
  obtain ⟨k, rfl⟩ : ∃ k, n = k + 4 := ⟨n - 4, by omega⟩
  unfold bodyK ir_law_right
  simp only [semSs, semS, semE, semEs, semAnd, semOr, semF, semG, semGs, semI, semR, semIf, startD, List.map_cons, List.map_nil, List.length_cons, List.length_nil]
  refine ⟨by unfold smallR; decide, ?_⟩
  have eL : L = L.set i o := by
    refine List.ext_getElem? fun j => ?_
    by_cases hj : i = j
    · subst hj
      rw [List.getElem?_set_self hi, ho]
    · rw [List.getElem?_set_ne hj]
  refine pts_loop (n := k + 4) (i := i) (L0 := L) (s := .fixed (rngD 0 4)) (by omega) (fun L => show (Src.fixed (rngD 0 4)).ok L from trivial) hi (fun x L2 kk hk => by rw [if_pos trivial]; exact ⟨_, rfl, hk _⟩) (rngD 0 4) [] B o hf hB0 (by have : ((rngD 0 4).length : Int) = 4 := rfl; omega) (fun x hx => by cases hx) (by decide) (fun pts o' hl hpf hfd => ?_) _ eL
  have hfd : Fd (B + 16) o' := hfd
  have hl : pts.length = 4 := hl
  match pts, hl, hpf with
  | [x1, x2, x3, x4], _, hpf =>
  generalize hL1 : L.set i o' = L1
  have hlen : L1.length = L.length := by rw [← hL1]; exact List.length_set
  have hN : (L1 ++ [O.lst [x1, x2, x3, x4]])[L1.length]? = some (.lst [x1, x2, x3, x4]) := by simp
  have hs : ∀ x y : O, (L1 ++ [x]).set L1.length y = L1 ++ [y] := fun x y => by simp
  obtain ⟨a1, b1, e1, a11, a12, b11, b12, _⟩ := pf_dest (hpf x1 (by simp))
  subst e1
  refine ⟨_, rfl, ?_⟩
  rw [ix_at hN]
  refine ⟨_, rfl, ?_⟩
  simp only [semGs, semG]
  refine ⟨_, rfl, ⟨_, res_at hN⟩, _, rfl, _, rfl, ?_⟩
  rw [(ev_bi _ _).1, e_mod]
  have m1 := Int.emod_nonneg b1 (show (999999 : Int) ≠ 0 by decide)
  have m2 := Int.emod_lt_of_pos b1 (show (0 : Int) < 999999 by decide)
  refine ⟨by decide, ?_⟩
  rw [e_add]
  refine u_lowest ⟨a1, _, rfl, by omega, ⟨by omega, by omega⟩, ?_⟩
  refine ⟨_, hN, show (4 : Nat) < sizeLine by decide, ?_⟩
  have h5pf := low_pf (a := a1) (b := b1 % 999999 + 1) (by omega) (by omega) a11 a12
  generalize hx5 : D.tup [.int (a1 / (Int.gcd a1 (b1 % 999999 + 1) : Nat)), .int ((b1 % 999999 + 1) / (Int.gcd a1 (b1 % 999999 + 1) : Nat))] = x5 at h5pf ⊢
  rw [hs]
  generalize hP : [D.tup [.int a1, .int b1], x2, x3, x4] ++ [x5] = P5
  have hP5 : P5.length = 5 := by rw [← hP]; rfl
  have hall : ∀ x ∈ P5, pf x = true := fun x hx => by
    rw [← hP] at hx
    rcases List.mem_append.mp hx with z | z
    · exact hpf _ z
    · simp at z
      subst z
      exact h5pf
  have hM : (L1 ++ [O.lst P5])[L1.length]? = some (.lst P5) := by simp
  refine ⟨_, rfl, ?_⟩
  rw [src_at hM]
  refine forR_inv (fun _ ds L' => L' = L1 ++ [O.lst P5] ∧ ∃ d2 d3 d4 d5 d6 d7 d8 d9 d10 d11, ds = [some (.obj i), some (.obj L1.length), d2, d3, d4, d5, d6, d7, d8, d9, d10, d11]) P5 P5 _ 0 _ _ ⟨rfl, _, _, _, _, _, _, _, _, _, _, rfl⟩ ?_ ?_
  · rintro j x ds L' hx ⟨rfl, d2, d3, d4, d5, d6, d7, d8, d9, d10, d11, rfl⟩
    refine ⟨hM, fun M hM1 _ => ?_⟩
    have hp := hall x (List.mem_of_getElem? hx)
    refine ⟨_, rfl, u_is_point ⟨x, rfl, by omega, tyP_of hp, ?_⟩⟩
    rw [hp]
    simp only [ev_isb, beq_self_eq_true, Bool.not_true, ev_truth, Bool.false_eq_true, if_false]
    refine ⟨_, rfl, _, rfl, lesser_of (by omega) hp hp ?_⟩
    rw [ltD_self hp]
    simp only [ev_isb, beq_self_eq_true, Bool.not_true, ev_truth, Bool.false_eq_true, if_false]
    refine ⟨_, rfl, ?_⟩
    rw [src_at hM]
    refine lcR_filter (s := .live L1.length P5) (L := L1 ++ [O.lst P5]) (fun y => if ltD y x = true then some (.int 1) else none) (show (Src.live L1.length P5).ok (L1 ++ [O.lst P5]) from hM) P5 [] (by rw [hP5]; decide) (fun y hy kk hk => ?_) ?_
    · refine ⟨_, rfl, _, rfl, lesser_of (by omega) (hall y hy) hp ?_⟩
      simp only [ev_truth]
      by_cases hc : ltD y x = true
      · rw [if_pos hc] at hk ⊢; exact hk
      · rw [if_neg hc] at hk ⊢; exact hk
    rw [(ev_bi _ _).2]
    refine ⟨_, rfl, ?_⟩
    rw [src_at hM]
    refine lcR_filter (s := .live L1.length P5) (L := L1 ++ [O.lst P5]) (fun y => if ltD y x = true then some (.int 1) else none) (show (Src.live L1.length P5).ok (L1 ++ [O.lst P5]) from hM) P5 [] (by rw [hP5]; decide) (fun y hy kk hk => ?_) ?_
    · refine ⟨_, rfl, _, rfl, below_of (by omega) (hall y hy) hp ?_⟩
      simp only [ev_truth]
      by_cases hc : ltD y x = true
      · rw [if_pos hc] at hk ⊢; exact hk
      · rw [if_neg hc] at hk ⊢; exact hk
    rw [(ev_bi _ _).2]
    refine ⟨by decide, _, rfl, ?_⟩
    rw [(ev_ix _ _ _ _).2]
    refine ⟨_, rfl, _, rfl, ?_⟩
    rw [(ev_ix _ _ _ _).2]
    refine ⟨_, rfl, ?_⟩
    simp only [ev_cmp, ev_truth, decide_true, Bool.not_true, Bool.false_eq_true, if_false]
    refine ⟨_, rfl, ?_⟩
    rw [src_at hM]
    refine forR_inv (fun _ ds L' => L' = L1 ++ [O.lst P5] ∧ ∃ d2 d3 d5 d6 d7 d8 d9 d10 d11, ds = [some (.obj i), some (.obj L1.length), d2, d3, some x, d5, d6, d7, d8, d9, d10, d11]) P5 P5 _ 0 _ _ ⟨rfl, _, _, _, _, _, _, _, _, _, rfl⟩ ?_ ?_
    · rintro j2 y ds L' hy ⟨rfl, d2, d3, d5, d6, d7, d8, d9, d10, d11, rfl⟩
      refine ⟨hM, fun M2 hM2 _ => ?_⟩
      have hq := hall y (List.mem_of_getElem? hy)
      obtain ⟨a, b, rfl, xa1, xa2, xb1, xb2, _⟩ := pf_dest hp
      obtain ⟨c, d, rfl, ya1, ya2, yb1, yb2, _⟩ := pf_dest hq
      refine ⟨_, rfl, ?_⟩
      rw [(ev_ix _ _ _ _).1]
      refine ⟨_, rfl, _, rfl, ?_⟩
      rw [(ev_ix _ _ _ _).1]
      refine ⟨_, rfl, ?_⟩
      rw [e_mul]
      refine ⟨mul_small (by omega) (by omega), _, rfl, ?_⟩
      rw [(ev_ix _ _ _ _).1]
      refine ⟨_, rfl, _, rfl, ?_⟩
      rw [(ev_ix _ _ _ _).1]
      refine ⟨_, rfl, ?_⟩
      rw [e_mul]
      refine ⟨mul_small (by omega) (by omega), ?_⟩
      rw [e_lt]
      refine ⟨_, rfl, ?_⟩
      rw [(ev_ix _ _ _ _).1]
      refine ⟨_, rfl, ?_⟩
      refine ⟨_, rfl, ?_⟩
      rw [(ev_ix _ _ _ _).1]
      refine ⟨_, rfl, by decide, ?_⟩
      refine ⟨_, rfl, ?_⟩
      rw [(ev_ix _ _ _ _).1]
      refine ⟨_, rfl, ?_⟩
      refine ⟨_, rfl, ?_⟩
      rw [(ev_ix _ _ _ _).1]
      refine ⟨_, rfl, by decide, ?_⟩
      refine u_is_lesser ⟨-c, d, -a, b, rfl, by omega, pf_neg hq, pf_neg hp, ?_⟩
      have em : decide ((-c) * b < (-a) * d) = decide (a * d < c * b) := by
        rw [Int.neg_mul, Int.neg_mul]
        exact decide_eq_decide.mpr (by omega)
      rw [em]
      refine ⟨_, rfl, _, rfl, lesser_of (by omega) hp hq ?_⟩
      refine ⟨_, rfl, _, rfl, ⟨rfl, rfl⟩, lesser_of (by omega) hp hq ?_⟩
      refine ⟨_, rfl, _, rfl, _, rfl, below_of (by omega) hp hq ?_⟩
      refine ⟨by decide, _, rfl, by decide, ?_⟩
      refine ⟨⟨by decide, by decide, show 1 * 4 ≤ sizeLine by decide⟩, ?_⟩
      refine u_same ⟨.lst [.bl (decide (a * d < c * b)), .bl (decide (a * d < c * b)), .bl (decide (a * d < c * b)), .bl (decide (a * d < c * b))], rfl, by simp [gd]; decide, ?_⟩
      simp only [ev_truth, Bool.not_true, Bool.false_eq_true, if_false]
      exact hM2 _ _ ⟨rfl, _, _, _, _, _, _, _, _, _, rfl⟩
    · rintro ds L' ⟨rfl, d2, d3, d5, d6, d7, d8, d9, d10, d11, rfl⟩
      exact ⟨hM, hM1 _ _ ⟨rfl, _, _, _, _, _, _, _, _, _, _, rfl⟩⟩
  · rintro ds L' ⟨rfl, d2, d3, d4, d5, d6, d7, d8, d9, d10, d11, rfl⟩
    refine ⟨hM, ?_⟩
    have hi1 : i < L1.length := by omega
    have hf16 : feedAt (L1 ++ [O.lst P5]) i (B + 16) := feed_app ⟨o', by rw [← hL1]; exact List.getElem?_set_self hi, hfd, by omega⟩
    have hset : ∀ o2, (L1 ++ [O.lst P5]).set i o2 = L.set i o2 ++ [O.lst P5] := fun o2 => by rw [List.set_append_left _ _ hi1, ← hL1, List.set_set]
    have hset2 : ∀ a b : O, (L.set i a ++ [O.lst P5]).set i b = L.set i b ++ [O.lst P5] := fun a b => by
      rw [List.set_append_left _ _ (by rw [List.length_set]; exact hi), List.set_set]
    have hMo : ∀ o2 : O, (L.set i o2 ++ [O.lst P5])[L1.length]? = some (.lst P5) := fun o2 => by
      have : L1.length = (L.set i o2).length := by rw [List.length_set]; exact hlen
      rw [this]
      simp
    have hfo : ∀ (o2 : O) (C : Int), Fd C o2 → C ≤ 100000000 → feedAt (L.set i o2 ++ [O.lst P5]) i C := fun o2 C hc hb => feed_app ⟨o2, List.getElem?_set_self hi, hc, hb⟩
    have hPn : P5 ≠ [] := fun e => by rw [e] at hP5; cases hP5
    refine ⟨_, rfl, _, rfl, u_one ⟨i, B + 16, _, P5, rfl, by omega, hf16, .inr (.inr ⟨_, by omega, rfl, hM⟩), ⟨hPn, by omega⟩, fun y1 hy1 o2 f2 => ?_⟩⟩
    rw [hset]
    refine ⟨_, rfl, _, rfl, u_one ⟨i, B + 16 + 1, _, P5, rfl, by omega, hfo o2 _ f2 (by omega), .inr (.inr ⟨_, by omega, rfl, hMo o2⟩), ⟨hPn, by omega⟩, fun y2 hy2 o3 f3 => ?_⟩⟩
    rw [hset2]
    refine ⟨trivial, _, rfl, _, rfl, mid_right_of (by omega) (hall y1 hy1) (hall y2 hy2) ?_⟩
    simp only [ev_truth, if_true]
    refine ⟨_, rfl, ?_⟩
    rw [ix_at (hMo o3)]
    refine ⟨_, (atI_nat (xs := P5) (k := 0) (by omega)).trans (List.getElem?_eq_getElem (by omega)), _, rfl, ?_⟩
    rw [ix_at (hMo o3)]
    refine ⟨_, (atI_nat (xs := P5) (k := 4) (by omega)).trans (List.getElem?_eq_getElem (by omega)), mid_right_of (by omega) (hall _ (List.getElem_mem _)) (hall _ (List.getElem_mem _)) ?_⟩
    simp only [ev_truth, if_true]
    refine ⟨_, rfl, u_forms_right ⟨i, B + 16 + 1 + 1, rfl, by omega, hfo o3 _ (Fd_mono f3 (by omega)) (by omega), hfo o3 _ f3 (by omega), fun o4 f4 => ?_⟩⟩
    rw [hset2]
    exact fin_cut rfl (fd_nonum f4) (h o4 (Fd_mono f4 (by omega)))
end K15

namespace K15
open PySem PySem.Spec PyProof.Rows L2 Nr
theorem b_law {n : Nat} {xs : List D} {L : Hl} {Q : QE} {E : XH} (h : c_law (n + 1) xs L Q E) : xs.length = 1 ∧ bodyK (Ph n) sbN 4 irlaw xs L Q E := by
  obtain ⟨ns, rfl, hn, h63, h⟩ := h
  refine ⟨rfl, ?_⟩
  unfold bodyK irlaw
  simp only [semSs, semS, semE, semEs, semG, semI, semR, startD, List.map_cons, List.map_nil, List.length_cons, List.length_nil]
  refine ⟨_, rfl, ?_⟩
  simp only [biK, lenK, ev_res]
  generalize hm : (if (if (3 : Int) < (((ns.map D.int).length : Nat) : Int) then (3 : Int) else (((ns.map D.int).length : Nat) : Int)) > 1 then (if (3 : Int) < (((ns.map D.int).length : Nat) : Int) then (3 : Int) else (((ns.map D.int).length : Nat) : Int)) else 1) = m
  have hm3 : 0 ≤ m ∧ m ≤ 3 := by
    rw [← hm]
    split <;> split <;> omega
  refine ⟨by unfold smallR; omega, ?_⟩
  refine forR_inv (fun _ ds _ => ∃ d1 d2 d3, ds = [some (.scr (ns.map .int)), d1, d2, d3]) (rngD 0 m) (rngD 0 m) _ 0 _ _ ⟨_, _, _, rfl⟩ ?_ ?_
  · rintro j x ds L' hx ⟨d1, d2, d3, rfl⟩
    obtain ⟨hj, rfl⟩ := rngD_get hx
    refine ⟨trivial, fun M hM _ => ?_⟩
    refine ⟨_, rfl, _, rfl, u_feed ⟨ns, _, rfl, by omega, ⟨h63, by omega, by omega⟩, fun o hf => ?_⟩⟩
    refine ⟨by unfold smallR; decide, ?_⟩
    refine forR_inv (fun t ds L2 => ∃ o2 d3, L2[L'.length]? = some o2 ∧ Fd (100 * (t : Int)) o2 ∧ ds = [some (.scr (ns.map .int)), some (.int (0 + (j : Int))), some (.obj L'.length), d3]) (rngD 0 3) (rngD 0 3) _ 0 _ _ ⟨o, _, by simp, by simpa using hf, rfl⟩ ?_ ?_
    · rintro t x ds L2 hx ⟨o2, d3, e1, e2, rfl⟩
      obtain ⟨ht, rfl⟩ := rngD_get hx
      refine ⟨trivial, fun M2 hM2 _ => ?_⟩
      refine ⟨_, rfl, u_right ⟨L'.length, _, rfl, by omega, ⟨o2, e1, e2⟩, ⟨by omega, by omega⟩, fun o3 f3 => ?_⟩⟩
      simp only [ev_truth, Bool.not_true, Bool.false_eq_true, if_false]
      refine hM2 _ _ ⟨o3, _, List.getElem?_set_self (List.getElem?_eq_some_iff.mp e1).1, ?_, rfl⟩
      have : 100 * ((0 + t : Nat) : Int) + 100 = 100 * ((0 + t + 1 : Nat) : Int) := by omega
      rw [this] at f3
      exact f3
    · rintro ds L2 ⟨o2, d3, e1, e2, rfl⟩
      exact ⟨trivial, hM _ _ ⟨_, _, _, rfl⟩⟩
  · rintro ds L' ⟨d1, d2, d3, rfl⟩
    exact ⟨trivial, fin_same (h L')⟩
/-! ### all -/
theorem ph0 : ∀ f xs L Q Ex, ¬ Ph 0 f xs L Q Ex := by
  have : ∀ p ∈ specs 0, ∀ xs L Q E, ¬ p.2 xs L Q E := by
    unfold specs
    refine List.forall_mem_cons.mpr ⟨?_, List.forall_mem_cons.mpr ⟨?_, List.forall_mem_cons.mpr ⟨?_, List.forall_mem_cons.mpr ⟨?_, List.forall_mem_cons.mpr ⟨?_, List.forall_mem_cons.mpr ⟨?_, List.forall_mem_cons.mpr ⟨?_, List.forall_mem_cons.mpr ⟨?_, List.forall_mem_cons.mpr ⟨?_, List.forall_mem_cons.mpr ⟨?_, List.forall_mem_cons.mpr ⟨?_, List.forall_mem_cons.mpr ⟨?_, List.forall_mem_cons.mpr ⟨?_, List.forall_mem_cons.mpr ⟨?_, List.forall_mem_cons.mpr ⟨?_, List.forall_mem_cons.mpr ⟨?_, List.forall_mem_cons.mpr ⟨?_, List.forall_mem_cons.mpr ⟨?_, List.forall_mem_cons.mpr ⟨?_, List.forall_mem_cons.mpr ⟨?_, List.forall_mem_cons.mpr ⟨?_, List.forall_mem_cons.mpr ⟨?_, fun p hp => absurd hp List.not_mem_nil⟩⟩⟩⟩⟩⟩⟩⟩⟩⟩⟩⟩⟩⟩⟩⟩⟩⟩⟩⟩⟩⟩
    · rintro xs L Q E ⟨_, _, _, _, z, _⟩; omega
    · rintro xs L Q E ⟨_, _, _, z, _⟩; omega
    · rintro xs L Q E ⟨_, _, z, _⟩; omega
    · rintro xs L Q E ⟨_, _, z, _⟩; omega
    · rintro xs L Q E ⟨_, _, _, _, _, z, _⟩; omega
    · rintro xs L Q E ⟨_, _, _, z, _⟩; omega
    · rintro xs L Q E ⟨_, _, _, _, _, z, _⟩; omega
    · rintro xs L Q E ⟨_, _, z, _⟩; omega
    · rintro xs L Q E ⟨_, _, _, _, _, z, _⟩; omega
    · rintro xs L Q E ⟨_, _, _, _, _, z, _⟩; omega
    · rintro xs L Q E ⟨_, _, _, z, _⟩; omega
    · rintro xs L Q E ⟨_, _, _, _, z, _⟩; omega
    · rintro xs L Q E ⟨_, _, _, _, _, z, _⟩; omega
    · rintro xs L Q E ⟨x, _, z, _⟩; simp [gd] at z
    · rintro xs L Q E ⟨_, _, _, z, _⟩; omega
    · rintro xs L Q E ⟨_, _, _, z, _⟩; omega
    · rintro xs L Q E ⟨_, _, _, z, _⟩; omega
    · rintro xs L Q E ⟨_, _, _, _, _, z, _⟩; omega
    · rintro xs L Q E ⟨_, _, _, _, _, z, _⟩; omega
    · rintro xs L Q E ⟨_, _, _, z, _⟩; omega
    · rintro xs L Q E ⟨_, _, _, z, _⟩; omega
    · rintro xs L Q E ⟨_, _, z, _⟩; omega
  rintro f xs L Q Ex ⟨c, hc, h⟩
  exact this _ hc _ _ _ _ h
theorem phs : ∀ k f xs L Q Ex, Ph (k + 1) f xs L Q Ex → ∃ d, T.get f = some d ∧ xs.length = d.ps.length ∧ bodyK (Ph k) sbN d.N.length d.ir xs L Q Ex := by
  intro k
  have : ∀ p ∈ specs (k + 1), ∀ xs L Q E, p.2 xs L Q E → ∃ d, T.get p.1 = some d ∧ xs.length = d.ps.length ∧ bodyK (Ph k) sbN d.N.length d.ir xs L Q E := by
    unfold specs
    refine List.forall_mem_cons.mpr ⟨?_, List.forall_mem_cons.mpr ⟨?_, List.forall_mem_cons.mpr ⟨?_, List.forall_mem_cons.mpr ⟨?_, List.forall_mem_cons.mpr ⟨?_, List.forall_mem_cons.mpr ⟨?_, List.forall_mem_cons.mpr ⟨?_, List.forall_mem_cons.mpr ⟨?_, List.forall_mem_cons.mpr ⟨?_, List.forall_mem_cons.mpr ⟨?_, List.forall_mem_cons.mpr ⟨?_, List.forall_mem_cons.mpr ⟨?_, List.forall_mem_cons.mpr ⟨?_, List.forall_mem_cons.mpr ⟨?_, List.forall_mem_cons.mpr ⟨?_, List.forall_mem_cons.mpr ⟨?_, List.forall_mem_cons.mpr ⟨?_, List.forall_mem_cons.mpr ⟨?_, List.forall_mem_cons.mpr ⟨?_, List.forall_mem_cons.mpr ⟨?_, List.forall_mem_cons.mpr ⟨?_, List.forall_mem_cons.mpr ⟨?_, fun p hp => absurd hp List.not_mem_nil⟩⟩⟩⟩⟩⟩⟩⟩⟩⟩⟩⟩⟩⟩⟩⟩⟩⟩⟩⟩⟩⟩
    · exact fun xs L Q E h => ⟨dis_integer, rfl, b_is_integer h⟩
    · exact fun xs L Q E h => ⟨dcommon, rfl, b_common h⟩
    · exact fun xs L Q E h => ⟨dis_point_form, rfl, b_is_point_form h⟩
    · exact fun xs L Q E h => ⟨dneed_point, rfl, b_need_point h⟩
    · exact fun xs L Q E h => ⟨dlesser, rfl, b_lesser h⟩
    · exact fun xs L Q E h => ⟨dpoint_of, rfl, b_point_of h⟩
    · exact fun xs L Q E h => ⟨dmiddle, rfl, b_middle h⟩
    · exact fun xs L Q E h => ⟨dis_point, rfl, b_is_point h⟩
    · exact fun xs L Q E h => ⟨dis_lesser, rfl, b_is_lesser h⟩
    · exact fun xs L Q E h => ⟨dbetween, rfl, b_between h⟩
    · exact fun xs L Q E h => ⟨d_law_feed, rfl, b_feed h⟩
    · exact fun xs L Q E h => ⟨d_law_draw, rfl, b_draw h⟩
    · exact fun xs L Q E h => ⟨d_law_one, rfl, b_one h⟩
    · exact fun xs L Q E h => ⟨d_law_same, rfl, b_same h⟩
    · exact fun xs L Q E h => ⟨d_law_common, rfl, b_lcommon h⟩
    · exact fun xs L Q E h => ⟨d_law_lowest, rfl, b_lowest h⟩
    · exact fun xs L Q E h => ⟨d_law_point, rfl, b_point h⟩
    · exact fun xs L Q E h => ⟨d_law_below, rfl, b_below h⟩
    · exact fun xs L Q E h => ⟨d_law_middle_right, rfl, b_middle_right h⟩
    · exact fun xs L Q E h => ⟨d_law_forms_right, rfl, b_forms_right h⟩
    · exact fun xs L Q E h => ⟨d_law_right, rfl, b_right h⟩
    · exact fun xs L Q E h => ⟨dlaw, rfl, b_law h⟩
  rintro f xs L Q Ex ⟨c, hc, h⟩
  exact this _ hc _ _ _ _ h
theorem facts {P : Program} {w : World} {K : PySem.W.Frag} {h : Heap} {mg : Str → Option Value} {f : Addr} (X : K.In h) (G : h.Ns mainGlobals mg) (hfa : mg ("law" : Str) = some (.ref f)) (c : He.SaysD T.fa T.fn K) :
    ∃ fd : FuncData, (∀ (s : Shared) (v : Value), BindsTo s fd ⟨[v], []⟩ [("script", v)]) ∧ ∃ sp : Sp, (∀ (H : Hp) (a : Addr) (ns : List Int), ns.length ≤ 63 → Only H → SqL K H a (ns.map V.int) → sp [.ref a] H (fun v _ => v = .bl true) fun _ _ _ => False) ∧
      ∀ base : Heap, K.In base → base.Ns mainGlobals mg → FnOk P w K mg base (L2.CX P w) 10 f fd ["script"] sp :=
  law_ok (d := dlaw) X G c T_chk T_bind ph0 phs rfl rfl hfa fun ns hl => u_law ⟨ns, rfl, by decide, hl, fun _ => rfl⟩
end K15

namespace K15
open PySem PySem.Spec PyProof.Rows L2 Nr
def CXw (P : Program) : CXT := fun outer H s E u s' => ∃ w : World, L2.CX P w outer H s E u s'
theorem fnOk_cx {P : Program} {w : World} {K : PySem.W.Frag} {mg : Str → Option Value} {base : Heap} {k : Nat} {f : Addr} {fd : FuncData} {ps : List Str} {sp : Sp} (F : FnOk P w K mg base (L2.CX P w) k f fd ps sp) : FnOk P w K mg base (CXw P) k f fd ps sp :=
  ⟨F.len, fun A outer s H args us vs Q E hr he hb hv hs => codeAny_mono (F.run A outer s H args us vs Q E hr he hb hv hs) fun r s' hq => by
    cases r with
    | error e => exact ⟨w, hq⟩
    | ok fl => cases fl <;> exact hq⟩
theorem cxw_no {P : Program} (H : Hp) (s : Shared) (e : Value) (s' : Shared) (h : CXw P [] H s (fun _ _ _ => False) e s') : False := by
  obtain ⟨w, _, _, _, _, _, _, _, _, _, _, _, _, z⟩ := h
  exact z
end K15
open PySem PySem.W PySem.Calls PyProof.Rows
theorem PySem.Challenge.cw_namerooms_k15_whole_points_holds : PySem.Challenge.rw_namerooms_k15_whole_points.Holds := by
  w_on; o_law
  refine HandSHeadRun.head_any (r := OpenLaw.row PySem.Challenge.rw_namerooms_k15_whole_points) (q := view (OpenLaw.row PySem.Challenge.rw_namerooms_k15_whole_points).prog [29]) (H := K15.hk) (ob := K15.ob) (M := 4000) (loose := K15.loose)
    (d := HandSHeadRun.topDef (OpenLaw.row PySem.Challenge.rw_namerooms_k15_whole_points).prog 29) (kwd := []) K15.ob_eq
    (by kernel_rfl) (fun s => by kernel_rfl) K15.run (by kernel_rfl) (by kernel_rfl) (by kernel_rfl) (by rfl) (by first | assumption | decide +kernel) (by decide +kernel) ⟨rfl, rfl, rfl, rfl, rfl, by decide +kernel⟩ ?hw ?hc
  case hw => w_witness2
  case hc =>
    refine L2.walk_ofE (l := PySem.Challenge.rw_namerooms_k15_whole_points) (n := 63) (k := 10) (x := "script") (CX := K15.CXw (PySem.Challenge.rw_namerooms_k15_whole_points).prog) rfl (by decide) (by kernel_rfl) ⟨rfl, by decide, by decide⟩ ?F K15.cxw_no
    intro w mg fa h Y G hmg0
    obtain ⟨K, KX, c⟩ := Y
    have hmg : mg ("law" : PySem.Str) = some (.ref fa) := by
      have e : (HandSHeadRun.topDef (OpenLaw.row PySem.Challenge.rw_namerooms_k15_whole_points).prog 29).name = ("law" : PySem.Str) := by kernel_rfl
      rw [← e]
      exact hmg0
    obtain ⟨fd, hb, sp, hsp, hF⟩ := K15.facts (P := (PySem.Challenge.rw_namerooms_k15_whole_points).prog) (w := w) KX G hmg c
    exact ⟨K, fd, sp, KX, hb, hsp, fun base h1 h2 => K15.fnOk_cx (hF base h1 h2)⟩
