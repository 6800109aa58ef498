import PyProof.Rows.All
import HandS.ForMost
import HandS.Exc
import HandS.ExcOwn
import HandS.WordsExc
import HandS.TryMany
import HandS.ExcField
import HandS.ExcIs
import HandS.IsInst
import HandS.TupAny
import HandS.Walk
import HandS.Zip
import HandS.Wide
import HandS.Defaults
import HandS.DictComp
import PyProof.StrOps2
import HandS.TupMul
import HandS.IntHex
import PyProof.ListStr
import PyProof.TupleOfStr
import HandS.TupLen
import HandS.SetFor
import HandS.SortInts
import HandS.Strs
import KE.GoesEnum
import KE.SortData
import HandS.ExcInit
import HandS.HeadWalk
import HandS.HeadHook4
import PySem.Challenge.RW_likeslips_k82_facts_and_looks_refused
import HandS.Head0
import HandS.Head1
import HandS.Head2
import HandS.HeadEnd
section
set_option Elab.async false
set_option linter.all false
set_option maxRecDepth 100000
set_option maxHeartbeats 4000000
set_option autoImplicit false
/-! Ev, part A: values, the store, what stands for them in the heap. -/
namespace Ev
open PySem PySem.Spec PyProof.Rows L2

inductive D where
  | non | bl (b : Bool) | int (i : Int) | str (cs : List Nat)
  | tup (ds : List D) | lst (ds : List D) | fl (ds : List D) | ft (ds : List D)
  | dk (ks : List Key) (vs : List D) | dt (ks : List (List Key)) (vs : List D)
  | ins (C : Nat) (fs : List Nat) (vs : List D)
  | ref (n : Nat) | cls (x : Nat)
  deriving Inhabited

inductive O where
  | lst (ds : List D)
  | dK (ks : List Key) (vs : List D)
  | dT (ks : List (List Key)) (vs : List D)
  | ins (C : Nat) (fs : List Nat) (vs : List D)
  deriving Inhabited

structure Exn where
  c : Nat
  fs : List Nat
  vs : List D

abbrev mkS (cs : List Nat) : Str := ⟨cs.toArray⟩

def kLst (K : PySem.W.Frag) (a : Addr) (xs : List V) : Prop := ∃ (o : Obj) (its : Array Value) (n : Nat), K.lookup a = some o ∧ o.cls = .type "list" ∧ o.dict = none ∧ o.data = .seq its n ∧ its.size ≤ sizeLine ∧ Vals xs its.toList
def kTup (K : PySem.W.Frag) (a : Addr) (xs : List V) : Prop := ∃ (o : Obj) (its : Array Value) (n : Nat), K.lookup a = some o ∧ o.cls = .type "tuple" ∧ o.data = .seq its n ∧ its.size ≤ sizeLine ∧ Vals xs its.toList

/-- the fixed part: the written fragment, the addresses of the own classes -/
structure Fx where
  K : PySem.W.Frag
  ca : Nat → Addr
  an : List Str
  nd : an.Nodup
/-- the attribute's name -/
def Fx.nm (F : Fx) (i : Nat) : Str := F.an.getD i ""
theorem getD_of {α : Type} {l : List α} {i : Nat} {d : α} (h : i < l.length) : l.getD i d = l[i] := by
  rw [List.getD_eq_getElem?_getD, List.getElem?_eq_getElem h]; rfl
theorem Fx.inj {F : Fx} {i j : Nat} (hi : i < F.an.length) (hj : j < F.an.length) (e : F.nm i = F.nm j) : i = j := by
  unfold Fx.nm at e
  rw [getD_of hi, getD_of hj] at e
  exact (List.getElem_inj F.nd).mp e

abbrev Mu := List Addr

mutual
def Rep (F : Fx) (μ : Mu) (H : Hp) : D → V → Prop
  | .non, v => v = .non
  | .bl b, v => v = .bl b
  | .int i, v => v = .int i
  | .str cs, v => v = .str (mkS cs)
  | .tup ds, v => ∃ a vs, v = .ref a ∧ (a ∉ μ ∧ H a = some (.tup vs)) ∧ RepL F μ H ds vs
  | .ft ds, v => ∃ a vs, v = .ref a ∧ ((a ∉ μ ∧ Rd H a (.tup vs)) ∨ kTup F.K a vs) ∧ RepL F μ H ds vs
  | .lst ds, v => ∃ a vs, v = .ref a ∧ (a ∉ μ ∧ H a = some (.lst vs)) ∧ RepL F μ H ds vs
  | .fl ds, v => ∃ a vs, v = .ref a ∧ ((a ∉ μ ∧ Rd H a (.lst vs)) ∨ kLst F.K a vs) ∧ RepL F μ H ds vs
  | .dk ks ds, v => ∃ a vs, v = .ref a ∧ a ∉ μ ∧ H a = some (.dK (ks.zip vs)) ∧ ks.length = ds.length ∧ RepL F μ H ds vs
  | .dt ks ds, v => ∃ a vs, v = .ref a ∧ a ∉ μ ∧ H a = some (.dT (ks.zip vs)) ∧ ks.length = ds.length ∧ RepL F μ H ds vs
  | .ins C fs ds, v => ∃ a dx vs, v = .ref a ∧ a ∉ μ ∧ H a = some (.ins (F.ca C) dx ((fs.map F.nm).zip vs)) ∧ fs.length = ds.length ∧ (∀ f ∈ fs, f < F.an.length) ∧ RepL F μ H ds vs
  | .ref n, v => ∃ a, v = .ref a ∧ μ[n]? = some a
  | .cls x, v => v = .ref (F.ca x)
def RepL (F : Fx) (μ : Mu) (H : Hp) : List D → List V → Prop
  | [], vs => vs = []
  | d :: ds, vs => ∃ v r, vs = v :: r ∧ Rep F μ H d v ∧ RepL F μ H ds r
end

/-- what a stored object stands for -/
def ORep (F : Fx) (μ : Mu) (H : Hp) (a : Addr) : O → Prop
  | .lst ds => ∃ vs, H a = some (.lst vs) ∧ RepL F μ H ds vs
  | .dK ks ds => ∃ vs, H a = some (.dK (ks.zip vs)) ∧ ks.length = ds.length ∧ RepL F μ H ds vs
  | .dT ks ds => ∃ vs, H a = some (.dT (ks.zip vs)) ∧ ks.length = ds.length ∧ RepL F μ H ds vs
  | .ins C fs ds => ∃ dx vs, H a = some (.ins (F.ca C) dx ((fs.map F.nm).zip vs)) ∧ fs.length = ds.length ∧ (∀ f ∈ fs, f < F.an.length) ∧ RepL F μ H ds vs

structure Rel (F : Fx) (μ : Mu) (S : List O) (H : Hp) : Prop where
  len : μ.length = S.length
  nd : μ.Nodup
  obj : ∀ (n : Nat) (o : O) (a : Addr), S[n]? = some o → μ[n]? = some a → ORep F μ H a o

structure Ext (μ : Mu) (H : Hp) (μ' : Mu) (H' : Hp) : Prop where
  pre : ∃ t, μ' = μ ++ t
  keep : ∀ a o, a ∉ μ → H a = some o → H' a = some o ∧ a ∉ μ'

theorem Ext.refl (μ : Mu) (H : Hp) : Ext μ H μ H := ⟨⟨[], by simp⟩, fun _ _ h e => ⟨e, h⟩⟩
theorem Ext.trans {μ1 μ2 μ3 : Mu} {H1 H2 H3 : Hp} (a : Ext μ1 H1 μ2 H2) (b : Ext μ2 H2 μ3 H3) : Ext μ1 H1 μ3 H3 := by
  refine ⟨?_, fun c o h e => ?_⟩
  · obtain ⟨t, rfl⟩ := a.pre
    obtain ⟨u, rfl⟩ := b.pre
    exact ⟨t ++ u, by simp⟩
  · obtain ⟨e1, h1⟩ := a.keep c o h e
    exact b.keep c o h1 e1
theorem Ext.get {μ μ' : Mu} {H H' : Hp} (x : Ext μ H μ' H') {n : Nat} {a : Addr} (h : μ[n]? = some a) : μ'[n]? = some a := by
  obtain ⟨t, rfl⟩ := x.pre
  obtain ⟨h1, h2⟩ := List.getElem?_eq_some_iff.mp h
  rw [List.getElem?_append_left h1]; exact h
theorem Ext.rd {μ μ' : Mu} {H H' : Hp} (x : Ext μ H μ' H') {a : Addr} {u : HO} (h : a ∉ μ ∧ Rd H a u) : a ∉ μ' ∧ Rd H' a u := by
  obtain ⟨h1, h2 | ⟨o, h2⟩⟩ := h
  · obtain ⟨e, m⟩ := x.keep a _ h1 h2
    exact ⟨m, .inl e⟩
  · obtain ⟨e, m⟩ := x.keep a _ h1 h2
    exact ⟨m, .inr ⟨o, e⟩⟩

section
variable {F : Fx} {μ μ' : Mu} {H H' : Hp}
mutual
theorem Rep.mono (x : Ext μ H μ' H') : ∀ (d : D) (v : V), Rep F μ H d v → Rep F μ' H' d v
  | .non, _, h => h
  | .bl _, _, h => h
  | .int _, _, h => h
  | .str _, _, h => h
  | .tup ds, v, h => by
    obtain ⟨a, vs, e, q, r⟩ := h
    obtain ⟨q1, q2⟩ := x.keep a _ q.1 q.2
    exact ⟨a, vs, e, ⟨q2, q1⟩, RepL.mono x ds vs r⟩
  | .ft ds, v, h => by
    obtain ⟨a, vs, e, q, r⟩ := h
    exact ⟨a, vs, e, q.imp x.rd id, RepL.mono x ds vs r⟩
  | .lst ds, v, h => by
    obtain ⟨a, vs, e, q, r⟩ := h
    obtain ⟨q1, q2⟩ := x.keep a _ q.1 q.2
    exact ⟨a, vs, e, ⟨q2, q1⟩, RepL.mono x ds vs r⟩
  | .fl ds, v, h => by
    obtain ⟨a, vs, e, q, r⟩ := h
    exact ⟨a, vs, e, q.imp x.rd id, RepL.mono x ds vs r⟩
  | .dk ks ds, v, h => by
    obtain ⟨a, vs, e, m, q, l, r⟩ := h
    obtain ⟨q', m'⟩ := x.keep a _ m q
    exact ⟨a, vs, e, m', q', l, RepL.mono x ds vs r⟩
  | .dt ks ds, v, h => by
    obtain ⟨a, vs, e, m, q, l, r⟩ := h
    obtain ⟨q', m'⟩ := x.keep a _ m q
    exact ⟨a, vs, e, m', q', l, RepL.mono x ds vs r⟩
  | .ins C fs ds, v, h => by
    obtain ⟨a, dx, vs, e, m, q, l, b, r⟩ := h
    obtain ⟨q', m'⟩ := x.keep a _ m q
    exact ⟨a, dx, vs, e, m', q', l, b, RepL.mono x ds vs r⟩
  | .ref n, v, h => by
    obtain ⟨a, e, q⟩ := h
    exact ⟨a, e, x.get q⟩
  | .cls _, _, h => h
theorem RepL.mono (x : Ext μ H μ' H') : ∀ (ds : List D) (vs : List V), RepL F μ H ds vs → RepL F μ' H' ds vs
  | [], _, h => h
  | d :: ds, vs, h => by
    obtain ⟨v, r, e, h1, h2⟩ := h
    exact ⟨v, r, e, Rep.mono x d v h1, RepL.mono x ds r h2⟩
end

theorem RepL.length : ∀ {ds : List D} {vs : List V}, RepL F μ H ds vs → vs.length = ds.length
  | [], _, h => by cases (show _ = _ from h); rfl
  | d :: ds, _, h => by
    obtain ⟨v, r, rfl, _, h2⟩ := h
    simp [RepL.length h2]
theorem RepL.get : ∀ {ds : List D} {vs : List V} {i : Nat} {d : D}, RepL F μ H ds vs → ds[i]? = some d → ∃ v, vs[i]? = some v ∧ Rep F μ H d v
  | [], _, _, _, _, e => by simp at e
  | d :: ds, _, 0, _, h, e => by
    obtain ⟨v, r, rfl, h1, _⟩ := h
    simp at e; subst e; exact ⟨v, rfl, h1⟩
  | d :: ds, _, i + 1, _, h, e => by
    obtain ⟨v, r, rfl, _, h2⟩ := h
    obtain ⟨w, e1, e2⟩ := RepL.get h2 (i := i) (by simpa using e)
    exact ⟨w, by simpa using e1, e2⟩
theorem RepL.get' : ∀ {ds : List D} {vs : List V} {i : Nat} {v : V}, RepL F μ H ds vs → vs[i]? = some v → ∃ d, ds[i]? = some d ∧ Rep F μ H d v
  | [], _, _, _, h, e => by cases (show _ = _ from h); simp at e
  | d :: ds, _, 0, _, h, e => by
    obtain ⟨v, r, rfl, h1, _⟩ := h
    simp at e; subst e; exact ⟨d, rfl, h1⟩
  | d :: ds, _, i + 1, _, h, e => by
    obtain ⟨v, r, rfl, _, h2⟩ := h
    obtain ⟨w, e1, e2⟩ := RepL.get' h2 (i := i) (by simpa using e)
    exact ⟨w, by simpa using e1, e2⟩
theorem RepL.append : ∀ {ds es : List D} {vs us : List V}, RepL F μ H ds vs → RepL F μ H es us → RepL F μ H (ds ++ es) (vs ++ us)
  | [], _, _, _, h, h' => by cases (show _ = _ from h); exact h'
  | d :: ds, _, _, _, h, h' => by
    obtain ⟨v, r, rfl, h1, h2⟩ := h
    exact ⟨v, _, rfl, h1, RepL.append h2 h'⟩
theorem RepL.snoc {ds : List D} {vs : List V} {d : D} {v : V} (h : RepL F μ H ds vs) (h1 : Rep F μ H d v) : RepL F μ H (ds ++ [d]) (vs ++ [v]) :=
  h.append ⟨v, [], rfl, h1, rfl⟩
theorem RepL.take : ∀ {ds : List D} {vs : List V} (n : Nat), RepL F μ H ds vs → RepL F μ H (ds.take n) (vs.take n)
  | _, _, 0, _ => by simp [RepL]
  | [], _, _ + 1, h => by cases (show _ = _ from h); simp [RepL]
  | d :: ds, _, n + 1, h => by
    obtain ⟨v, r, rfl, h1, h2⟩ := h
    exact ⟨v, _, rfl, h1, RepL.take n h2⟩
theorem RepL.drop : ∀ {ds : List D} {vs : List V} (n : Nat), RepL F μ H ds vs → RepL F μ H (ds.drop n) (vs.drop n)
  | _, _, 0, h => by simpa using h
  | [], _, _ + 1, h => by cases (show _ = _ from h); simp [RepL]
  | d :: ds, _, n + 1, h => by
    obtain ⟨v, r, rfl, h1, h2⟩ := h
    exact RepL.drop n h2
theorem RepL.set : ∀ {ds : List D} {vs : List V} {d : D} {v : V} (i : Nat), RepL F μ H ds vs → Rep F μ H d v → RepL F μ H (ds.set i d) (vs.set i v)
  | [], _, _, _, _, h, _ => by cases (show _ = _ from h); simp [RepL]
  | d :: ds, _, _, _, 0, h, h' => by
    obtain ⟨v, r, rfl, h1, h2⟩ := h
    exact ⟨_, _, rfl, h', h2⟩
  | d :: ds, _, _, _, i + 1, h, h' => by
    obtain ⟨v, r, rfl, h1, h2⟩ := h
    exact ⟨v, _, rfl, h1, RepL.set i h2 h'⟩
theorem RepL.reverse {ds : List D} {vs : List V} (h : RepL F μ H ds vs) : RepL F μ H ds.reverse vs.reverse := by
  induction ds generalizing vs with
  | nil => cases (show _ = _ from h); simp [RepL]
  | cons d ds ih =>
    obtain ⟨v, r, rfl, h1, h2⟩ := h
    rw [List.reverse_cons, List.reverse_cons]
    exact (ih h2).snoc h1
theorem RepL.int : ∀ {ns : List Int} {vs : List V}, RepL F μ H (ns.map D.int) vs → vs = ns.map V.int
  | [], _, h => h
  | n :: ns, _, h => by
    obtain ⟨v, r, rfl, h1, h2⟩ := h
    cases (show _ = _ from h1)
    rw [RepL.int h2]; rfl
theorem RepL.bl : ∀ {ns : List Bool} {vs : List V}, RepL F μ H (ns.map D.bl) vs → vs = ns.map V.bl
  | [], _, h => h
  | n :: ns, _, h => by
    obtain ⟨v, r, rfl, h1, h2⟩ := h
    cases (show _ = _ from h1)
    rw [RepL.bl h2]; rfl
theorem RepL.strs : ∀ {ns : List (List Nat)} {vs : List V}, RepL F μ H (ns.map D.str) vs → vs = (ns.map mkS).map V.str
  | [], _, h => h
  | n :: ns, _, h => by
    obtain ⟨v, r, rfl, h1, h2⟩ := h
    cases (show _ = _ from h1)
    rw [RepL.strs h2]; rfl

theorem Rep.seqT {ds : List D} {v : V} (h : Rep F μ H (.tup ds) v) : ∃ a vs, v = .ref a ∧ SqT F.K H a vs ∧ RepL F μ H ds vs := by
  obtain ⟨a, vs, e, q, r⟩ := h
  exact ⟨a, vs, e, SqT.of q.2, r⟩
theorem Rep.seqF {ds : List D} {v : V} (h : Rep F μ H (.ft ds) v) : ∃ a vs, v = .ref a ∧ SqT F.K H a vs ∧ RepL F μ H ds vs := by
  obtain ⟨a, vs, e, q, r⟩ := h
  exact ⟨a, vs, e, q.imp (·.2) id, r⟩
theorem Rep.seqL {ds : List D} {v : V} (h : Rep F μ H (.fl ds) v) : ∃ a vs, v = .ref a ∧ SqL F.K H a vs ∧ RepL F μ H ds vs := by
  obtain ⟨a, vs, e, q, r⟩ := h
  exact ⟨a, vs, e, q.imp (·.2) id, r⟩

theorem ORep.some {a : Addr} {o : O} (h : ORep F μ H a o) : ∃ u, H a = some u := by
  cases o with
  | lst ds => obtain ⟨vs, e, _⟩ := h; exact ⟨_, e⟩
  | dK ks ds => obtain ⟨vs, e, _⟩ := h; exact ⟨_, e⟩
  | dT ks ds => obtain ⟨vs, e, _⟩ := h; exact ⟨_, e⟩
  | ins C fs ds => obtain ⟨dx, vs, e, _⟩ := h; exact ⟨_, e⟩
theorem Rel.mem {S : List O} (r : Rel F μ S H) {a : Addr} (h : a ∈ μ) : ∃ u, H a = some u := by
  obtain ⟨n, hn, e⟩ := List.mem_iff_getElem.mp h
  have h1 : n < S.length := by rw [← r.len]; exact hn
  exact (r.obj n S[n] a (List.getElem?_eq_getElem h1) (by rw [List.getElem?_eq_getElem hn, e])).some
theorem Rel.fresh {S : List O} (r : Rel F μ S H) {a : Addr} (h : H a = none) : a ∉ μ := fun m => by
  obtain ⟨u, e⟩ := r.mem m
  rw [h] at e; cases e
/-- the object at an address, with the same content, in a later heap -/
theorem ORep.to {a : Addr} {o : O} (h : ORep F μ H a o) (x : Ext μ H μ' H') (e : H' a = H a) : ORep F μ' H' a o := by
  cases o with
  | lst ds => obtain ⟨vs, q, r⟩ := h; exact ⟨vs, e.trans q, r.mono x⟩
  | dK ks ds => obtain ⟨vs, q, l, r⟩ := h; exact ⟨vs, e.trans q, l, r.mono x⟩
  | dT ks ds => obtain ⟨vs, q, l, r⟩ := h; exact ⟨vs, e.trans q, l, r.mono x⟩
  | ins C fs ds => obtain ⟨dx, vs, q, l, b, r⟩ := h; exact ⟨dx, vs, e.trans q, l, b, r.mono x⟩

/-- a new thing that is nobody's (a tuple, a frozen list) -/
theorem Ext.laid {p : Addr} {u : HO} (h : H p = none) : Ext μ H μ (upd H p u) :=
  ⟨⟨[], by simp⟩, fun a o m e => ⟨by rw [upd_ne (ne_of_none e h)]; exact e, m⟩⟩
theorem Rel.laid {S : List O} {p : Addr} {u : HO} (r : Rel F μ S H) (h : H p = none) : Rel F μ S (upd H p u) :=
  ⟨r.len, r.nd, fun n o a e1 e2 => (r.obj n o a e1 e2).to (Ext.laid h) (upd_ne fun z => by
    have := r.fresh h; rw [← z] at this; exact this (List.mem_of_getElem? e2))⟩
/-- a new stored object -/
theorem Ext.push {p : Addr} {u : HO} (h : H p = none) : Ext μ H (μ ++ [p]) (upd H p u) :=
  ⟨⟨[p], rfl⟩, fun a o m e => ⟨by rw [upd_ne (ne_of_none e h)]; exact e, by
    simp only [List.mem_append, List.mem_singleton, not_or]; exact ⟨m, ne_of_none e h⟩⟩⟩
theorem Rel.push {S : List O} {p : Addr} {u : HO} {o : O} (r : Rel F μ S H) (h : H p = none) (ho : ORep F (μ ++ [p]) (upd H p u) p o) : Rel F (μ ++ [p]) (S ++ [o]) (upd H p u) := by
  have hp := r.fresh h
  refine ⟨by simp [r.len], ?_, fun n o' a e1 e2 => ?_⟩
  · rw [List.nodup_append]
    refine ⟨r.nd, by simp, fun a ha b hb => ?_⟩
    simp at hb; subst hb; rintro rfl; exact hp ha
  · by_cases hn : n < S.length
    · rw [List.getElem?_append_left hn] at e1
      rw [List.getElem?_append_left (by rw [r.len]; exact hn)] at e2
      exact (r.obj n o' a e1 e2).to (Ext.push h) (upd_ne fun z => by subst z; exact hp (List.mem_of_getElem? e2))
    · have hn' : n = S.length := by
        obtain ⟨q, _⟩ := List.getElem?_eq_some_iff.mp e1
        simp at q; omega
      subst hn'
      rw [List.getElem?_append_right (Nat.le_refl _)] at e1
      rw [List.getElem?_append_right (by rw [r.len]; exact Nat.le_refl _)] at e2
      simp [r.len] at e1 e2
      subst e1 e2
      exact ho
/-- a stored object is changed -/
theorem Ext.wr {a : Addr} {u : HO} (h : a ∈ μ) : Ext μ H μ (upd H a u) :=
  ⟨⟨[], by simp⟩, fun b o m e => ⟨by rw [upd_ne (fun z => by subst z; exact m h)]; exact e, m⟩⟩
theorem Rel.wr {S : List O} {n : Nat} {a : Addr} {u : HO} {o : O} (r : Rel F μ S H) (e : μ[n]? = some a) (ho : ORep F μ (upd H a u) a o) : Rel F μ (S.set n o) (upd H a u) := by
  have hm : a ∈ μ := List.mem_of_getElem? e
  refine ⟨by simp [r.len], r.nd, fun k o' b e1 e2 => ?_⟩
  by_cases hk : k = n
  · subst hk
    rw [e] at e2; cases e2
    have hl : k < S.length := by rw [← r.len]; exact (List.getElem?_eq_some_iff.mp e).1
    rw [List.getElem?_set_self hl] at e1
    cases e1; exact ho
  · rw [List.getElem?_set_ne (Ne.symm hk)] at e1
    refine (r.obj k o' b e1 e2).to (Ext.wr hm) (upd_ne fun z => ?_)
    subst z
    obtain ⟨h1, q1⟩ := List.getElem?_eq_some_iff.mp e
    obtain ⟨h2, q2⟩ := List.getElem?_eq_some_iff.mp e2
    exact hk ((List.getElem_inj r.nd).mp (q2.trans q1.symm))
end
end Ev
end
section
set_option Elab.async false
set_option linter.all false
set_option maxRecDepth 100000
set_option maxHeartbeats 4000000
set_option autoImplicit false
/-! Ev, part B: operations on values, and that the model does them. -/
namespace Ev
open PySem PySem.Spec PyProof.Rows L2

inductive R (α : Type) where
  | ok (a : α) (S : List O) | ex (x : Exn) (S : List O) | bad
def R.bind {α β : Type} (r : R α) (f : α → List O → R β) : R β := match r with
  | .ok a S => f a S
  | .ex x S => .ex x S
  | .bad => .bad
@[simp] theorem R.bind_ok {α β : Type} (a : α) (S : List O) (f : α → List O → R β) : (R.ok a S).bind f = f a S := rfl
@[simp] theorem R.bind_ex {α β : Type} (a : Exn) (S : List O) (f : α → List O → R β) : (R.ex a S).bind f = .ex a S := rfl
@[simp] theorem R.bind_bad {α β : Type} (f : α → List O → R β) : (R.bad).bind f = .bad := rfl

/-- the list that a value is (a stored one, a frozen one) -/
def listOf (S : List O) : D → Option (List D)
  | .lst ds => some ds
  | .ref n => (match S[n]? with
    | some (.lst ds) => some ds
    | _ => none)
  | _ => none
/-- the list that a value is, to be read -/
def rdL (S : List O) : D → Option (List D)
  | .fl ds => some ds
  | d => listOf S d
/-- a list's or a tuple's items -/
def seqOf (S : List O) : D → Option (List D)
  | .tup ds => some ds
  | .ft ds => some ds
  | d => rdL S d

section
variable {F : Fx} {μ : Mu} {H : Hp} {S : List O} {d : D} {v : V} {ds : List D}
theorem listOf_rep (rel : Rel F μ S H) (h : Rep F μ H d v) (e : listOf S d = some ds) : ∃ a vs, v = .ref a ∧ H a = some (.lst vs) ∧ RepL F μ H ds vs := by
  unfold listOf at e
  split at e
  · cases e
    obtain ⟨a, vs, rfl, q, r⟩ := h
    exact ⟨a, vs, rfl, q.2, r⟩
  · rename_i n
    obtain ⟨a, rfl, hm⟩ := h
    split at e
    · rename_i es hn
      cases e
      obtain ⟨vs, q, r⟩ := rel.obj n _ a hn hm
      exact ⟨a, vs, rfl, q, r⟩
    · cases e
  · cases e
theorem rdL_rep (rel : Rel F μ S H) (h : Rep F μ H d v) (e : rdL S d = some ds) : ∃ a vs, v = .ref a ∧ SqL F.K H a vs ∧ RepL F μ H ds vs := by
  unfold rdL at e
  split at e
  · cases e; exact h.seqL
  · obtain ⟨a, vs, rfl, q, r⟩ := listOf_rep rel h e
    exact ⟨a, vs, rfl, SqL.of q, r⟩
theorem seqOf_rep (rel : Rel F μ S H) (h : Rep F μ H d v) (e : seqOf S d = some ds) : ∃ a vs, v = .ref a ∧ (SqL F.K H a vs ∨ SqT F.K H a vs) ∧ RepL F μ H ds vs := by
  unfold seqOf at e
  split at e
  · cases e
    obtain ⟨a, vs, rfl, q, r⟩ := h.seqT
    exact ⟨a, vs, rfl, .inr q, r⟩
  · cases e
    obtain ⟨a, vs, rfl, q, r⟩ := h.seqF
    exact ⟨a, vs, rfl, .inr q, r⟩
  · obtain ⟨a, vs, rfl, q, r⟩ := rdL_rep rel h e
    exact ⟨a, vs, rfl, .inl q, r⟩
end

/-- what is wanted of a primitive's end -/
def P1 (F : Fx) (μ : Mu) (H : Hp) (r : R D) (Q : VK) : Prop := match r with
  | .ok d S' => ∀ μ' H' v, Ext μ H μ' H' → Rel F μ' S' H' → Rep F μ' H' d v → Q v H'
  | _ => False
def rP2 (F : Fx) (f : D → D → List O → R D) : R2 := fun x y H Q => ∃ μ S d e, Rel F μ S H ∧ Rep F μ H d x ∧ Rep F μ H e y ∧ P1 F μ H (f d e S) Q
def rPn (F : Fx) (f : List D → List O → R D) : List V → Hp → VK → Prop := fun xs H Q => ∃ μ S ds, Rel F μ S H ∧ RepL F μ H ds xs ∧ P1 F μ H (f ds S) Q
def rPm (F : Fx) (f : D → List D → List O → R D) : V → List V → Hp → VK → Prop := fun x xs H Q => ∃ μ S d ds, Rel F μ S H ∧ Rep F μ H d x ∧ RepL F μ H ds xs ∧ P1 F μ H (f d ds S) Q

section
variable {F : Fx} {μ : Mu} {H : Hp} {S : List O} {d : D} {Q : VK} {v : V}
theorem P1.here (p : P1 F μ H (.ok d S) Q) (rel : Rel F μ S H) (r : Rep F μ H d v) : Q v H := p μ H v (Ext.refl _ _) rel r
theorem P1.tup {ds : List D} {vs : List V} (p : P1 F μ H (.ok (.tup ds) S) Q) (rel : Rel F μ S H) (r : RepL F μ H ds vs) : ∀ a, H a = none → Q (.ref a) (upd H a (.tup vs)) := fun a n =>
  p μ _ _ (Ext.laid n) (rel.laid n) ⟨a, vs, rfl, ⟨rel.fresh n, upd_same⟩, r.mono (Ext.laid n)⟩
theorem P1.lst {ds : List D} {vs : List V} (p : P1 F μ H (.ok (.lst ds) S) Q) (rel : Rel F μ S H) (r : RepL F μ H ds vs) : ∀ a, H a = none → Q (.ref a) (upd H a (.lst vs)) := fun a n =>
  p μ _ _ (Ext.laid n) (rel.laid n) ⟨a, vs, rfl, ⟨rel.fresh n, upd_same⟩, r.mono (Ext.laid n)⟩
/-- a new stored object -/
theorem P1.new {o : O} {u : HO} (p : P1 F μ H (.ok (.ref S.length) (S ++ [o])) Q) (rel : Rel F μ S H) (h : ∀ a, H a = none → ORep F (μ ++ [a]) (upd H a u) a o) : ∀ a, H a = none → Q (.ref a) (upd H a u) := fun a n =>
  p _ _ _ (Ext.push n) (rel.push n (h a n)) ⟨a, rfl, by rw [← rel.len]; simp⟩
/-- a stored object is changed -/
theorem P1.wr {o : O} {u : HO} {n : Nat} {a : Addr} (p : P1 F μ H (.ok d (S.set n o)) Q) (rel : Rel F μ S H) (e : μ[n]? = some a) (h : ORep F μ (upd H a u) a o) (r : Rep F μ (upd H a u) d v) : Q v (upd H a u) :=
  p _ _ _ (Ext.wr (List.mem_of_getElem? e)) (rel.wr e h) r
end

/-! ### data for == -/
mutual
def pyD : D → PyData
  | .non => .none
  | .bl b => .bool b
  | .int i => .int i
  | .str cs => .str (mkS cs)
  | .tup ds => .tuple (pyL ds)
  | .ft ds => .tuple (pyL ds)
  | .lst ds => .list (pyL ds)
  | .fl ds => .list (pyL ds)
  | .dk _ _ | .dt _ _ | .ins _ _ _ | .ref _ | .cls _ => .dict []
def pyL : List D → List PyData
  | [] => []
  | d :: ds => pyD d :: pyL ds
end
mutual
def okD : D → Bool
  | .non | .bl _ | .int _ => true
  | .str cs => cs.all (· < 0x110000)
  | .tup ds | .lst ds | .fl ds | .ft ds => okL ds
  | .dk _ _ | .dt _ _ | .ins _ _ _ | .ref _ | .cls _ => false
def okL : List D → Bool
  | [] => true
  | d :: ds => okD d && okL ds
end
mutual
theorem okD_lay : ∀ d : D, okD d = true → (pyD d).canLay0 = true
  | .non, _ => rfl
  | .bl _, _ => rfl
  | .int _, _ => rfl
  | .str cs, h => by
    show PyData.strOk (mkS cs) = true
    unfold PyData.strOk
    rw [← Array.all_toList]
    exact h
  | .tup ds, h => okL_lay ds h
  | .lst ds, h => okL_lay ds h
  | .fl ds, h => okL_lay ds h
  | .ft ds, h => okL_lay ds h
theorem okL_lay : ∀ ds : List D, okL ds = true → PyData.canLayAll0 (pyL ds) = true
  | [], _ => rfl
  | d :: ds, h => by
    have h' := Bool.and_eq_true_iff.mp (show (okD d && okL ds) = true from h)
    show (_ && _) = true
    rw [okD_lay d h'.1, okL_lay ds h'.2]; rfl
end
mutual
theorem Rep.dp {F : Fx} {μ : Mu} {H : Hp} : ∀ (d : D) (v : V), okD d = true → Rep F μ H d v → Dp F.K H v (pyD d)
  | .non, v, _, h => by cases (show _ = _ from h); exact .non
  | .bl _, v, _, h => by cases (show _ = _ from h); exact .bl _
  | .int _, v, _, h => by cases (show _ = _ from h); exact .int _
  | .str _, v, _, h => by cases (show _ = _ from h); exact .str _
  | .tup ds, v, o, h => by
    obtain ⟨a, vs, rfl, q, r⟩ := Rep.seqT h
    exact .tup q (RepL.dp ds vs o r)
  | .lst ds, v, o, h => by
    obtain ⟨a, vs, rfl, q, r⟩ := h
    exact .lst (SqL.of q.2) (RepL.dp ds vs o r)
  | .fl ds, v, o, h => by
    obtain ⟨a, vs, rfl, q, r⟩ := Rep.seqL h
    exact .lst q (RepL.dp ds vs o r)
  | .ft ds, v, o, h => by
    obtain ⟨a, vs, rfl, q, r⟩ := Rep.seqF h
    exact .tup q (RepL.dp ds vs o r)
theorem RepL.dp {F : Fx} {μ : Mu} {H : Hp} : ∀ (ds : List D) (vs : List V), okL ds = true → RepL F μ H ds vs → DpAll F.K H vs (pyL ds)
  | [], vs, _, h => by cases (show _ = _ from h); exact .nil
  | d :: ds, vs, o, h => by
    have h' := Bool.and_eq_true_iff.mp (show (okD d && okL ds) = true from o)
    obtain ⟨v, r, rfl, h1, h2⟩ := h
    exact .cons (Rep.dp d v h'.1 h1) (RepL.dp ds r h'.2 h2)
end
/-- may be compared -/
def shD (d : D) : Bool := okD d && decide ((pyD d).depth ≤ 60)
theorem shD_shaped {d : D} (h : shD d = true) : SeqAt.shaped (pyD d) = true := by
  have h' := Bool.and_eq_true_iff.mp h
  show (_ && _) = true
  rw [okD_lay d h'.1, Bool.true_and]
  have := of_decide_eq_true h'.2
  exact decide_eq_true (by omega)
def eqD (d e : D) : Bool := PyData.eqv (pyD d) (pyD e)

section
variable {X : Cx} {F : Fx}
theorem OpR.imp {f : Value → Value → Sem Value} {r r' : R2} (h : OpR X f r) (i : ∀ x y H Q, r' x y H Q → r x y H Q) : OpR X f r' :=
  fun pins s σ H x y v u Q I rx ry q => h pins s σ H x y v u Q I rx ry (i _ _ _ _ q)
theorem CallR.imp {f : Value} {r r' : List V → Hp → VK → Prop} (h : CallR X f r) (i : ∀ x H Q, r' x H Q → r x H Q) : CallR X f r' :=
  fun pins s σ H xs us Q I rs q => h pins s σ H xs us Q I rs (i _ _ _ q)
theorem MtR.imp {id : String} {r r' : V → List V → Hp → VK → Prop} (h : MtR X id r) (i : ∀ x xs H Q, r' x xs H Q → r x xs H Q) : MtR X id r' :=
  fun pins s σ H x xs v us Q I rx rs q => h pins s σ H x xs v us Q I rx rs (i _ _ _ _ q)

/-- lists of unlike lengths -/
def rLL (neg : Bool) : R2 := fun x y H Q => ∃ a b xs ys, x = .ref a ∧ y = .ref b ∧ H a = some (.lst xs) ∧ H b = some (.lst ys) ∧ xs.length ≠ ys.length ∧ Q (.bl neg) H
theorem op_eqLL (hu : X.A.units + 64 < cLine) : OpR X (compareOp .Eq) (rLL false) := by
  intro pins s σ H x y v u Q I rx ry h
  obtain ⟨a, b, xs, ys, rfl, rfl, ha, hb, hne, q⟩ := h
  cases rx
  cases ry
  obtain ⟨z1, its1, n1, r1, l1, e1⟩ := I.lstM ha
  obtain ⟨z2, its2, n2, r2, l2, e2⟩ := I.lstM hb
  have h1 : s.heap.IsList a its1.toArray := ⟨_, e1, rfl, _, rfl⟩
  have h2 : s.heap.IsList b its2.toArray := ⟨_, e2, rfl, _, rfl⟩
  exact SeqAt.eq_list_lengthsAt h1 h2 (by simp; omega) (by omega) ⟨.bl _, H, I, rfl, q⟩
theorem op_neLL (hu : X.A.units + 64 < cLine) : OpR X (compareOp .NotEq) (rLL true) := by
  intro pins s σ H x y v u Q I rx ry h
  obtain ⟨a, b, xs, ys, rfl, rfl, ha, hb, hne, q⟩ := h
  cases rx
  cases ry
  obtain ⟨z1, its1, n1, r1, l1, e1⟩ := I.lstM ha
  obtain ⟨z2, its2, n2, r2, l2, e2⟩ := I.lstM hb
  have h1 : s.heap.IsList a its1.toArray := ⟨_, e1, rfl, _, rfl⟩
  have h2 : s.heap.IsList b its2.toArray := ⟨_, e2, rfl, _, rfl⟩
  exact SeqAt.RcNeAt.lists_lengths h1 h2 (by simp; omega) (by omega) _ _ _ _ ⟨.bl _, H, I, rfl, q⟩
/-- tuples, one of them empty -/
def rTT (neg : Bool) (K : PySem.W.Frag) : R2 := fun x y H Q => ∃ a b xs ys, x = .ref a ∧ y = .ref b ∧ SqT K H a xs ∧ SqT K H b ys ∧ (xs = [] ∨ ys = []) ∧ Q (.bl (neg != (xs.length == ys.length))) H
theorem min0 {a b : Nat} (h : a = 0 ∨ b = 0) : min a b = 0 := by omega
theorem op_eqTT (hu : X.A.units + 64 < cLine) : OpR X (compareOp .Eq) (rTT false X.K) := by
  intro pins s σ H x y v u Q I rx ry h
  obtain ⟨a, b, xs, ys, rfl, rfl, ha, hb, hne, q⟩ := h
  cases rx
  cases ry
  obtain ⟨its1, r1, p1, z1⟩ := I.tuple ha
  obtain ⟨its2, r2, p2, z2⟩ := I.tuple hb
  have l1 := r1.length
  have l2 := r2.length
  have hm : min its1.toArray.size its2.toArray.size = 0 := min0 (by
    rcases hne with e | e
    · left; rw [List.size_toArray, ← l1, e]; rfl
    · right; rw [List.size_toArray, ← l2, e]; rfl)
  refine SeqAt.eq_tupleAt (e := fun _ => true) p1 p2 (by omega) (fun j h1 h2 => absurd (Nat.lt_min.mpr ⟨h1, h2⟩) (by rw [hm]; omega)) ⟨.bl _, H, I, rfl, ?_⟩
  rw [hm]
  simpa [← l1, ← l2] using q
theorem op_neTT (hu : X.A.units + 64 < cLine) : OpR X (compareOp .NotEq) (rTT true X.K) := by
  intro pins s σ H x y v u Q I rx ry h
  obtain ⟨a, b, xs, ys, rfl, rfl, ha, hb, hne, q⟩ := h
  cases rx
  cases ry
  obtain ⟨its1, r1, p1, z1⟩ := I.tuple ha
  obtain ⟨its2, r2, p2, z2⟩ := I.tuple hb
  have l1 := r1.length
  have l2 := r2.length
  have hm : min its1.toArray.size its2.toArray.size = 0 := min0 (by
    rcases hne with e | e
    · left; rw [List.size_toArray, ← l1, e]; rfl
    · right; rw [List.size_toArray, ← l2, e]; rfl)
  refine SeqAt.RcNeAt.tuples (e := fun _ => true) p1 p2 (by omega) (fun j h1 h2 => absurd (Nat.lt_min.mpr ⟨h1, h2⟩) (by rw [hm]; omega)) _ _ _ _ ⟨.bl _, H, I, rfl, ?_⟩
  rw [hm]
  simpa [← l1, ← l2] using q
def eqDS (neg : Bool) (x y : D) (S : List O) : R D :=
  match listOf S x, listOf S y with
  | some a, some b => if a.length ≠ b.length then .ok (.bl neg) S else if shD (.lst a) && shD (.lst b) then .ok (.bl (neg != eqD (.lst a) (.lst b))) S else .bad
  | _, _ => match x, y with
    | .tup a, .tup b => if a = [] ∨ b = [] then .ok (.bl (neg != (a.length == b.length))) S else if shD (.tup a) && shD (.tup b) then .ok (.bl (neg != eqD (.tup a) (.tup b))) S else .bad
    | x, y => if shD x && shD y then .ok (.bl (neg != eqD x y)) S else .bad
theorem bne_false (b : Bool) : (false != b) = b := by cases b <;> rfl
theorem bne_true (b : Bool) : (true != b) = !b := by cases b <;> rfl
theorem repD {μ : Mu} {H : Hp} {d e : D} {x y : V} (K : PySem.W.Frag) (hk : F.K = K) (h1 : Rep F μ H d x) (h2 : Rep F μ H e y) (hs : (shD d && shD e) = true) : Dp K H x (pyD d) ∧ Dp K H y (pyD e) ∧ SeqAt.shaped (pyD d) = true ∧ SeqAt.shaped (pyD e) = true := by
  have h := Bool.and_eq_true_iff.mp hs
  have o1 := (Bool.and_eq_true_iff.mp h.1).1
  have o2 := (Bool.and_eq_true_iff.mp h.2).1
  subst hk
  exact ⟨Rep.dp d x o1 h1, Rep.dp e y o2 h2, shD_shaped h.1, shD_shaped h.2⟩
theorem eq_cases (neg : Bool) (hk : F.K = X.K) {x y : V} {H : Hp} {Q : VK} (h : rP2 F (eqDS neg) x y H Q) : rLL neg x y H Q ∨ rTT neg X.K x y H Q ∨ ∃ d e, Dp X.K H x d ∧ Dp X.K H y e ∧ SeqAt.shaped d = true ∧ SeqAt.shaped e = true ∧ Q (.bl (neg != PyData.eqv d e)) H := by
  obtain ⟨μ, S, d, e, rel, hd, he, p⟩ := h
  unfold eqDS at p
  split at p
  · rename_i a b ea eb
    obtain ⟨p1, vs, rfl, q1, r1⟩ := listOf_rep rel hd ea
    obtain ⟨p2, us, rfl, q2, r2⟩ := listOf_rep rel he eb
    split at p
    · rename_i hne
      refine .inl ⟨p1, p2, vs, us, rfl, rfl, q1, q2, ?_, p.here rel rfl⟩
      rw [r1.length, r2.length]; exact hne
    · split at p
      · rename_i hs
        have h := Bool.and_eq_true_iff.mp hs
        have o1 := (Bool.and_eq_true_iff.mp h.1).1
        have o2 := (Bool.and_eq_true_iff.mp h.2).1
        refine .inr (.inr ⟨_, _, .lst (SqL.of q1) (hk ▸ RepL.dp a vs o1 r1), .lst (SqL.of q2) (hk ▸ RepL.dp b us o2 r2), shD_shaped h.1, shD_shaped h.2, p.here rel rfl⟩)
      · exact p.elim
  · split at p
    · rename_i a b
      split at p
      · rename_i hne
        obtain ⟨p1, vs, rfl, q1, r1⟩ := hd.seqT
        obtain ⟨p2, us, rfl, q2, r2⟩ := he.seqT
        refine .inr (.inl ⟨p1, p2, vs, us, rfl, rfl, hk ▸ q1, hk ▸ q2, ?_, ?_⟩)
        · rcases hne with z | z
          · left; exact List.eq_nil_of_length_eq_zero (by rw [r1.length, z]; rfl)
          · right; exact List.eq_nil_of_length_eq_zero (by rw [r2.length, z]; rfl)
        · rw [r1.length, r2.length]; exact p.here rel rfl
      · split at p
        · rename_i hs
          obtain ⟨a1, a2, a3, a4⟩ := repD X.K hk hd he hs
          exact .inr (.inr ⟨_, _, a1, a2, a3, a4, p.here rel rfl⟩)
        · exact p.elim
    · split at p
      · rename_i hs
        obtain ⟨a1, a2, a3, a4⟩ := repD X.K hk hd he hs
        exact .inr (.inr ⟨_, _, a1, a2, a3, a4, p.here rel rfl⟩)
      · exact p.elim
theorem op_eqS (hk : F.K = X.K) (hu : X.A.units + 64 < cLine) : OpR X (compareOp .Eq) (rP2 F (eqDS false)) :=
  OpR.imp ((op_eqLL hu).or ((op_eqTT hu).or (op_eqD hu))) fun x y H Q h => by
    rcases eq_cases false hk h with z | z | ⟨d, e, a1, a2, a3, a4, q⟩
    · exact .inl z
    · exact .inr (.inl z)
    · exact .inr (.inr ⟨d, e, a1, a2, a3, a4, by rw [bne_false] at q; exact q⟩)
theorem op_neS (hk : F.K = X.K) (hu : X.A.units + 64 < cLine) : OpR X (compareOp .NotEq) (rP2 F (eqDS true)) :=
  OpR.imp ((op_neLL hu).or ((op_neTT hu).or (op_neD hu))) fun x y H Q h => by
    rcases eq_cases true hk h with z | z | ⟨d, e, a1, a2, a3, a4, q⟩
    · exact .inl z
    · exact .inr (.inl z)
    · exact .inr (.inr ⟨d, e, a1, a2, a3, a4, by rw [bne_true] at q; exact q⟩)
end
end Ev
end
section
set_option Elab.async false
set_option linter.all false
set_option maxRecDepth 100000
set_option maxHeartbeats 4000000
set_option autoImplicit false
/-! Ev, part B2: arithmetic, order, in, subscripts. -/
namespace Ev
open PySem PySem.Spec PyProof.Rows L2

def boolI (b : Bool) : Int := if b then 1 else 0
def i2 (f : Int → Int → R D) : D → D → List O → R D
  | .int i, .int j, _ => f i j
  | _, _, _ => .bad

def addD : D → D → List O → R D
  | .int i, .int j, S => .ok (.int (i + j)) S
  | .str a, .str b, S => if a.length + b.length ≤ sizeLine then .ok (.str (a ++ b)) S else .bad
  | .tup a, .tup b, S => if a.length + b.length ≤ sizeLine then .ok (.tup (a ++ b)) S else .bad
  | x, y, S => match listOf S x, listOf S y with
    | some a, some b => if a.length + b.length ≤ sizeLine then .ok (.lst (a ++ b)) S else .bad
    | _, _ => .bad
def subD : D → D → List O → R D
  | .int i, .int j, S => .ok (.int (i - j)) S
  | _, _, _ => .bad
instance (i j : Int) : Decidable (CMul i j) := by unfold CMul; infer_instance
instance (i j : Int) : Decidable (CMulW i j) := by unfold CMulW; infer_instance
instance (i j : Int) : Decidable (CDivN i j) := by unfold CDivN; infer_instance
instance (i j : Int) : Decidable (CDivW i j) := by unfold CDivW; infer_instance
instance (i j : Int) : Decidable (CPow i j) := by unfold CPow; infer_instance
def repL {α : Type} (k : Nat) (xs : List α) : List α := (List.replicate k xs).flatten
def mulD : D → D → List O → R D
  | .int i, .int j, S => if CMul i j ∨ CMulW i j then .ok (.int (i * j)) S else .bad
  | .str a, .int k, S => if 0 ≤ k ∧ k ≤ 1000 ∧ a.length ≤ 1000 then .ok (.str (repL k.toNat a)) S else .bad
  | .tup a, .int k, S => if a ≠ [] ∧ 2 ≤ k ∧ k ≤ 1000 ∧ a.length ≤ 1000 then .ok (.tup (repL k.toNat a)) S else .bad
  | _, _, _ => .bad
def fdivD : D → D → List O → R D
  | .int i, .int j, S => if CDivN i j then .ok (.int (i.fdiv j)) S else if CDivW i j then .ok (.int (i / j)) S else .bad
  | _, _, _ => .bad
def modD : D → D → List O → R D
  | .int i, .int j, S => if j ≠ 0 then .ok (.int (i.fmod j)) S else .bad
  | _, _, _ => .bad
def powD : D → D → List O → R D
  | .int i, .int j, S => if CPow i j then .ok (.int (i ^ j.toNat)) S else .bad
  | _, _, _ => .bad
def shlD : D → D → List O → R D
  | .int i, .int j, S => if CPow i j then .ok (.int (i * 2 ^ j.toNat)) S else .bad
  | _, _, _ => .bad
def shrD : D → D → List O → R D
  | .int i, .int j, S => if 0 ≤ j then .ok (.int (i / 2 ^ j.toNat)) S else .bad
  | _, _, _ => .bad
def bitD (f : Int → Int → Int) : D → D → List O → R D
  | .int i, .int j, S => .ok (.int (f i j)) S
  | _, _, _ => .bad
@[simp] def binD : Operator → D → D → List O → R D
  | .Add => addD
  | .Sub => subD
  | .Mult => mulD
  | .FloorDiv => fdivD
  | .Mod => modD
  | .Pow => powD
  | .LShift => shlD
  | .RShift => shrD
  | .BitAnd => bitD Builtin.bitAnd
  | .BitOr => bitD Builtin.bitOr
  | .BitXor => bitD Builtin.bitXor
  | _ => fun _ _ _ => .bad

section
variable {X : Cx} {F : Fx}
theorem op_ints {f : Value → Value → Sem Value} {C : Int → Int → Prop} {g : Int → Int → V} {op : D → D → List O → R D} (h : OpR X f (rI C g))
    (i : ∀ x y H Q, rP2 F op x y H Q → ∃ i j, x = .int i ∧ y = .int j ∧ C i j ∧ Q (g i j) H) : OpR X f (rP2 F op) := OpR.imp h i
theorem rep_int {μ : Mu} {H : Hp} {i : Int} {x : V} (h : Rep F μ H (.int i) x) : x = .int i := h
theorem op_bit {f : Value → Value → Sem Value} {g : Int → Int → Int} (h : OpR X f (rI0 fun i j => .int (g i j))) : OpR X f (rP2 F (bitD g)) :=
  OpR.imp h fun x y H Q q => by
    obtain ⟨μ, S, d, e, rel, hd, he, p⟩ := q
    unfold bitD at p
    split at p
    · cases rep_int hd; cases rep_int he
      exact ⟨_, _, rfl, rfl, p.here rel rfl⟩
    · exact p.elim
theorem op_subS : OpR X (binaryOp .Sub) (rP2 F subD) :=
  OpR.imp op_sub fun x y H Q q => by
    obtain ⟨μ, S, d, e, rel, hd, he, p⟩ := q
    unfold subD at p
    split at p
    · cases rep_int hd; cases rep_int he
      exact ⟨_, _, rfl, rfl, p.here rel rfl⟩
    · exact p.elim
theorem op_modS : OpR X (binaryOp .Mod) (rP2 F modD) :=
  OpR.imp op_modN fun x y H Q q => by
    obtain ⟨μ, S, d, e, rel, hd, he, p⟩ := q
    unfold modD at p
    split at p
    · cases rep_int hd; cases rep_int he
      split at p
      · rename_i h; exact ⟨_, _, rfl, rfl, h, p.here rel rfl⟩
      · exact p.elim
    · exact p.elim
theorem op_powS : OpR X (binaryOp .Pow) (rP2 F powD) :=
  OpR.imp op_pow fun x y H Q q => by
    obtain ⟨μ, S, d, e, rel, hd, he, p⟩ := q
    unfold powD at p
    split at p
    · cases rep_int hd; cases rep_int he
      split at p
      · rename_i h; exact ⟨_, _, rfl, rfl, h, p.here rel rfl⟩
      · exact p.elim
    · exact p.elim
theorem op_shlS : OpR X (binaryOp .LShift) (rP2 F shlD) :=
  OpR.imp op_shl fun x y H Q q => by
    obtain ⟨μ, S, d, e, rel, hd, he, p⟩ := q
    unfold shlD at p
    split at p
    · cases rep_int hd; cases rep_int he
      split at p
      · rename_i h; exact ⟨_, _, rfl, rfl, h, p.here rel rfl⟩
      · exact p.elim
    · exact p.elim
theorem op_shrS : OpR X (binaryOp .RShift) (rP2 F shrD) :=
  OpR.imp op_shr fun x y H Q q => by
    obtain ⟨μ, S, d, e, rel, hd, he, p⟩ := q
    unfold shrD at p
    split at p
    · cases rep_int hd; cases rep_int he
      split at p
      · rename_i h; exact ⟨_, _, rfl, rfl, h, p.here rel rfl⟩
      · exact p.elim
    · exact p.elim
theorem op_fdivS : OpR X (binaryOp .FloorDiv) (rP2 F fdivD) :=
  OpR.imp (op_fdivN.or op_fdivW) fun x y H Q q => by
    obtain ⟨μ, S, d, e, rel, hd, he, p⟩ := q
    unfold fdivD at p
    split at p
    · cases rep_int hd; cases rep_int he
      split at p
      · rename_i h; exact .inl ⟨_, _, rfl, rfl, h, p.here rel rfl⟩
      · split at p
        · rename_i h; exact .inr ⟨_, _, rfl, rfl, h, p.here rel rfl⟩
        · exact p.elim
    · exact p.elim
theorem mkS_app (a b : List Nat) : mkS a ++ mkS b = mkS (a ++ b) := by
  show (⟨_⟩ : Str) = ⟨_⟩
  simp [mkS]
theorem mkS_len (a : List Nat) : (mkS a).length = a.length := by simp [mkS, Str.length]
theorem op_addS (hk : F.K = X.K) : OpR X (binaryOp .Add) (rP2 F addD) :=
  OpR.imp (op_add.or (op_add_str.or (op_catA.or op_cat))) fun x y H Q q => by
    obtain ⟨μ, S, d, e, rel, hd, he, p⟩ := q
    unfold addD at p
    split at p
    · cases rep_int hd; cases rep_int he
      exact .inl ⟨_, _, rfl, rfl, p.here rel rfl⟩
    · split at p
      · rename_i a b _ h
        cases (show _ = _ from hd); cases (show _ = _ from he)
        refine .inr (.inl ⟨_, _, rfl, rfl, by rw [mkS_len, mkS_len]; exact h, ?_⟩)
        rw [mkS_app]; exact p.here rel rfl
      · exact p.elim
    · split at p
      · rename_i a b h
        obtain ⟨p1, vs, rfl, q1, r1⟩ := hd.seqT
        obtain ⟨p2, us, rfl, q2, r2⟩ := he.seqT
        refine .inr (.inr (.inl ⟨p1, p2, vs, us, rfl, rfl, hk ▸ q1, hk ▸ q2, by rw [r1.length, r2.length]; exact h, fun e => ?_, fun _ e => ?_, fun _ _ => p.tup rel (r1.append r2)⟩))
        · have ea : a = [] := List.eq_nil_of_length_eq_zero (by rw [← r1.length, e]; rfl)
          subst ea
          exact p.here rel he
        · have eb : b = [] := List.eq_nil_of_length_eq_zero (by rw [← r2.length, e]; rfl)
          subst eb
          rw [List.append_nil] at p
          exact p.here rel hd
      · exact p.elim
    · split at p
      · rename_i a b ea eb
        obtain ⟨p1, vs, rfl, q1, r1⟩ := listOf_rep rel hd ea
        obtain ⟨p2, us, rfl, q2, r2⟩ := listOf_rep rel he eb
        split at p
        · rename_i h
          exact .inr (.inr (.inr ⟨p1, p2, vs, us, rfl, rfl, q1, q2, by rw [r1.length, r2.length]; exact h, p.lst rel (r1.append r2)⟩))
        · exact p.elim
      · exact p.elim
theorem foldl_app {α : Type} (a : List α) : ∀ (k : Nat) (acc : List α), (List.replicate k a.toArray).foldl (· ++ ·) acc.toArray = (acc ++ repL k a).toArray
  | 0, acc => by simp [repL]
  | k + 1, acc => by
    rw [List.replicate_succ, List.foldl_cons]
    have e : acc.toArray ++ a.toArray = (acc ++ a).toArray := by simp
    rw [e, foldl_app a k (acc ++ a)]
    simp [repL, List.replicate_succ]
theorem repL_len {α : Type} (a : List α) : ∀ k : Nat, (repL k a).length = k * a.length
  | 0 => by simp [repL]
  | k + 1 => by
    have := repL_len a k
    simp only [repL, List.replicate_succ, List.flatten_cons, List.length_append] at this ⊢
    rw [this, Nat.succ_mul]; omega
def rMulS : R2 := fun x y H Q => ∃ (a : List Nat) (k : Int), x = .str (mkS a) ∧ y = .int k ∧ 0 ≤ k ∧ k ≤ 1000 ∧ a.length ≤ 1000 ∧ Q (.str (mkS (repL k.toNat a))) H
theorem op_mulStr : OpR X (binaryOp .Mult) rMulS := by
  intro pins s σ H x y v u Q I rx ry h
  obtain ⟨a, k, rfl, rfl, h0, h1, h2, q⟩ := h
  obtain ⟨t, rfl⟩ := rx
  obtain ⟨t', rfl⟩ := ry
  have hmul : a.length * k.toNat ≤ 1000 * 1000 := Nat.mul_le_mul h2 (by omega)
  refine PySem.P.mul_str ?_ (fun hn _ => ?_) (fun hn _ => ?_) ?_
  · rw [decide_eq_false (by omega), decide_eq_false (by omega)]; rfl
  · rw [mkS_len]
    have hk : 0 < k := by omega
    have : ((1000 : Nat) : Int) ≤ (2 ^ 63 - 1) / k := by
      rw [Int.le_ediv_iff_mul_le hk]
      calc ((1000 : Nat) : Int) * k ≤ 1000 * 1000 := by omega
        _ ≤ 2 ^ 63 - 1 := by decide
    omega
  · rw [mkS_len]
    unfold Builtin.Str.tooLong
    refine decide_eq_false ?_
    rw [sizeLine_eq]; omega
  · by_cases hk : k < 1
    · have : k = 0 := by omega
      subst this
      rw [if_pos hk]
      refine ⟨by decide, .str _, H, I.tok _, ⟨_, rfl⟩, ?_⟩
      have e : repL (0 : Int).toNat a = [] := by simp [repL]
      rw [e] at q; exact q
    · rw [if_neg hk]
      by_cases h3 : (k == 1 || (mkS a).length == 0) = true
      · rw [if_pos h3]
        refine ⟨.str _, H, I, ⟨_, rfl⟩, ?_⟩
        have e : repL k.toNat a = a := by
          rw [Bool.or_eq_true] at h3
          rcases h3 with h3 | h3
          · have : k = 1 := by simpa using h3
            subst this; simp [repL]
          · have : a = [] := by simpa [mkS_len] using h3
            subst this; simp [repL]
        rw [e] at q; exact q
      · rw [if_neg h3]
        have e := foldl_app a k.toNat []
        refine ⟨?_, .str _, H, I.tok _, ⟨_, rfl⟩, ?_⟩
        · show Str.length ⟨_⟩ ≤ sizeLine
          rw [show (#[] : Array Nat) = ([] : List Nat).toArray from rfl, e, List.nil_append]
          have := mkS_len (repL k.toNat a)
          rw [show Str.length ⟨(repL k.toNat a).toArray⟩ = (repL k.toNat a).length from this, repL_len, sizeLine_eq, Nat.mul_comm]; omega
        · show Q (.str ⟨_⟩) H
          rw [show (#[] : Array Nat) = ([] : List Nat).toArray from rfl, e, List.nil_append]
          exact q
end
end Ev
end
section
set_option Elab.async false
set_option linter.all false
set_option maxRecDepth 100000
set_option maxHeartbeats 4000000
set_option autoImplicit false
/-! Ev, part B3: order, in, is, dicts, subscripts, truth. -/
namespace Ev
open PySem PySem.Spec PyProof.Rows L2

/-! ### order -/
def ordD (f : Int → Int → Bool) : D → D → List O → R D
  | .int i, .int j, S => .ok (.bl (f i j)) S
  | _, _, _ => .bad
def ltD : D → D → List O → R D
  | .int i, .int j, S => .ok (.bl (decide (i < j))) S
  | .str a, .str b, S => .ok (.bl (decide (a < b))) S
  | _, _, _ => .bad
/-! ### is None -/
def isD (neg : Bool) : D → D → List O → R D
  | .non, .non, S => .ok (.bl (neg != true)) S
  | _, .non, S => .ok (.bl (neg != false)) S
  | _, _, _ => .bad
/-! ### keys, dicts -/
def keyD : D → Option Key
  | .int i => some (.inl i)
  | .str cs => some (.inr (mkS cs))
  | _ => none
def keysD : List D → Option (List Key)
  | [] => some []
  | d :: ds => match keyD d, keysD ds with
    | some k, some ks => some (k :: ks)
    | _, _ => none
def keyT : D → Option (List Key)
  | .tup ds => keysD ds
  | _ => none
def lookK {κ : Type} [DecidableEq κ] : List κ → List D → κ → Option D
  | a :: as, b :: bs, k => if a = k then some b else lookK as bs k
  | _, _, _ => none
def setK {κ : Type} [DecidableEq κ] : List κ → List D → κ → D → List D
  | a :: as, b :: bs, k, d => if a = k then d :: setK as bs k d else b :: setK as bs k d
  | _, _, _, _ => []
def putKs {κ : Type} [DecidableEq κ] (ks : List κ) (k : κ) : List κ := if k ∈ ks then ks else ks ++ [k]
def putVs {κ : Type} [DecidableEq κ] (ks : List κ) (vs : List D) (k : κ) (d : D) : List D := if k ∈ ks then setK ks vs k d else vs ++ [d]

def dkOf (S : List O) : D → Option (List Key × List D)
  | .dk ks vs => some (ks, vs)
  | .ref n => (match S[n]? with
    | some (.dK ks vs) => some (ks, vs)
    | _ => none)
  | _ => none
def dtOf (S : List O) : D → Option (List (List Key) × List D)
  | .dt ks vs => some (ks, vs)
  | .ref n => (match S[n]? with
    | some (.dT ks vs) => some (ks, vs)
    | _ => none)
  | _ => none
/-- what a dict holds at a key: none: no dict, or no key of its kind -/
def dGet (S : List O) (d k : D) : Option (Option D) :=
  match dkOf S d with
  | some (ks, vs) => (keyD k).map fun q => lookK ks vs q
  | none => match dtOf S d with
    | some (ks, vs) => (keyT k).map fun q => lookK ks vs q
    | none => none

section
variable {F : Fx} {μ : Mu} {H : Hp} {S : List O} {d k : D} {v x : V}
theorem keyD_rep {q : Key} (h : Rep F μ H k x) (e : keyD k = some q) : x = kV q := by
  unfold keyD at e
  split at e
  · cases e; exact h
  · cases e; exact h
  · cases e
theorem keysD_rep : ∀ {ds : List D} {vs : List V} {q : List Key}, RepL F μ H ds vs → keysD ds = some q → vs = q.map kV
  | [], _, _, h, e => by cases e; exact h
  | d :: ds, _, _, h, e => by
    obtain ⟨v, r, rfl, h1, h2⟩ := h
    unfold keysD at e
    split at e
    · rename_i a b e1 e2
      cases e
      rw [keyD_rep h1 e1, keysD_rep h2 e2]; rfl
    · cases e
theorem keyT_rep {q : List Key} (h : Rep F μ H k x) (e : keyT k = some q) : ∃ b, x = .ref b ∧ H b = some (.tup (q.map kV)) := by
  unfold keyT at e
  split at e
  · obtain ⟨a, vs, rfl, q1, r⟩ := h
    rw [keysD_rep r e] at q1
    exact ⟨a, rfl, q1.2⟩
  · cases e
theorem dkOf_rep {ks : List Key} {vs : List D} (rel : Rel F μ S H) (h : Rep F μ H d v) (e : dkOf S d = some (ks, vs)) : ∃ a us, v = .ref a ∧ H a = some (.dK (ks.zip us)) ∧ ks.length = vs.length ∧ RepL F μ H vs us := by
  unfold dkOf at e
  split at e
  · cases e
    obtain ⟨a, us, rfl, _, q, l, r⟩ := h
    exact ⟨a, us, rfl, q, l, r⟩
  · rename_i n
    obtain ⟨a, rfl, hm⟩ := h
    split at e
    · rename_i hn
      cases e
      obtain ⟨us, q, l, r⟩ := rel.obj n _ a hn hm
      exact ⟨a, us, rfl, q, l, r⟩
    · cases e
  · cases e
theorem dtOf_rep {ks : List (List Key)} {vs : List D} (rel : Rel F μ S H) (h : Rep F μ H d v) (e : dtOf S d = some (ks, vs)) : ∃ a us, v = .ref a ∧ H a = some (.dT (ks.zip us)) ∧ ks.length = vs.length ∧ RepL F μ H vs us := by
  unfold dtOf at e
  split at e
  · cases e
    obtain ⟨a, us, rfl, _, q, l, r⟩ := h
    exact ⟨a, us, rfl, q, l, r⟩
  · rename_i n
    obtain ⟨a, rfl, hm⟩ := h
    split at e
    · rename_i hn
      cases e
      obtain ⟨us, q, l, r⟩ := rel.obj n _ a hn hm
      exact ⟨a, us, rfl, q, l, r⟩
    · cases e
  · cases e
theorem lookK_rep {κ : Type} [DecidableEq κ] : ∀ {ks : List κ} {vs : List D} {us : List V} (k : κ), RepL F μ H vs us →
    (lookK ks vs k = none → valV (ks.zip us) k = none) ∧ ∀ d, lookK ks vs k = some d → ∃ u, valV (ks.zip us) k = some u ∧ Rep F μ H d u
  | [], _, _, k, _ => ⟨fun _ => rfl, fun d e => by simp [lookK] at e⟩
  | a :: as, [], us, k, h => by
    cases (show _ = _ from h)
    exact ⟨fun _ => rfl, fun d e => by simp [lookK] at e⟩
  | a :: as, b :: bs, us, k, h => by
    obtain ⟨v, r, rfl, h1, h2⟩ := h
    have ih := lookK_rep (ks := as) k h2
    rw [List.zip_cons_cons]
    unfold lookK
    by_cases e : a = k
    · rw [if_pos e, valV_pos e]
      exact ⟨fun z => (by cases z), fun d z => (by cases z; exact ⟨v, rfl, h1⟩)⟩
    · rw [if_neg e, valV_neg e]
      exact ih
theorem dGet_rep {o : Option D} (rel : Rel F μ S H) (h : Rep F μ H d v) (hx : Rep F μ H k x) (e : dGet S d k = some o) :
    ∃ a ov, v = .ref a ∧ DGet H a x ov ∧ IsD H a ∧ (o = none → ov = none) ∧ ∀ w, o = some w → ∃ u, ov = some u ∧ Rep F μ H w u := by
  unfold dGet at e
  split at e
  · rename_i ks vs ed
    obtain ⟨a, us, rfl, q, l, r⟩ := dkOf_rep rel h ed
    obtain ⟨kk, ek, e⟩ := Option.map_eq_some_iff.mp e
    subst e
    cases keyD_rep hx ek
    obtain ⟨l1, l2⟩ := lookK_rep (ks := ks) kk r
    exact ⟨a, _, rfl, DGet.k q, .inl ⟨_, .inl q⟩, l1, l2⟩
  · split at e
    · rename_i ks vs ed
      obtain ⟨a, us, rfl, q, l, r⟩ := dtOf_rep rel h ed
      obtain ⟨kk, ek, e⟩ := Option.map_eq_some_iff.mp e
      subst e
      obtain ⟨b, rfl, hb⟩ := keyT_rep hx ek
      obtain ⟨l1, l2⟩ := lookK_rep (ks := ks) kk r
      exact ⟨a, _, rfl, DGet.t q hb, .inr ⟨_, .inl q⟩, l1, l2⟩
    · cases e
theorem mem_zip_any {κ : Type} [DecidableEq κ] : ∀ (ks : List κ) (us : List V) (k : κ), ks.length = us.length → ((ks.zip us).any fun kv => decide (kv.1 = k)) = decide (k ∈ ks)
  | [], _, k, _ => by simp
  | a :: as, [], k, h => by simp at h
  | a :: as, u :: us, k, h => by
    rw [List.zip_cons_cons, List.any_cons, mem_zip_any as us k (by simpa using h)]
    by_cases e : a = k
    · simp [e]
    · have : ¬ k = a := fun z => e z.symm
      simp [e, this]
theorem setK_len {κ : Type} [DecidableEq κ] : ∀ (ks : List κ) (vs : List D) (k : κ) (d : D), ks.length = vs.length → (setK ks vs k d).length = vs.length
  | [], [], _, _, _ => rfl
  | [], _ :: _, _, _, h => by simp at h
  | _ :: _, [], _, _, h => by simp at h
  | a :: as, b :: bs, k, d, h => by
    unfold setK
    have := setK_len as bs k d (by simpa using h)
    split <;> simp [this]
theorem setK_rep {κ : Type} [DecidableEq κ] : ∀ {ks : List κ} {vs : List D} {us : List V} {k : κ} {d : D} {u : V}, RepL F μ H vs us → ks.length = vs.length → Rep F μ H d u →
    ∃ ws, RepL F μ H (setK ks vs k d) ws ∧ (ks.zip us).map (fun kv => if kv.1 = k then (kv.1, u) else kv) = ks.zip ws
  | [], [], us, k, d, u, h, _, _ => by
    cases (show _ = _ from h); exact ⟨[], rfl, rfl⟩
  | [], _ :: _, _, _, _, _, _, h, _ => by simp at h
  | _ :: _, [], _, _, _, _, _, h, _ => by simp at h
  | a :: as, b :: bs, us, k, d, u, h, hl, hd => by
    obtain ⟨v, r, rfl, h1, h2⟩ := h
    obtain ⟨ws, r1, e1⟩ := setK_rep (ks := as) (k := k) h2 (by simpa using hl) hd
    unfold setK
    rw [List.zip_cons_cons, List.map_cons, e1]
    by_cases e : a = k
    · rw [if_pos e]
      refine ⟨u :: ws, ⟨u, ws, rfl, hd, r1⟩, ?_⟩
      simp [e]
    · rw [if_neg e]
      refine ⟨v :: ws, ⟨v, ws, rfl, h1, r1⟩, ?_⟩
      simp [e]
theorem putK_rep {κ : Type} [DecidableEq κ] {ks : List κ} {vs : List D} {us : List V} {k : κ} {d : D} {u : V} (r : RepL F μ H vs us) (l : ks.length = vs.length) (hd : Rep F μ H d u) :
    ∃ ws, RepL F μ H (putVs ks vs k d) ws ∧ putK (ks.zip us) k u = (putKs ks k).zip ws ∧ (putKs ks k).length = (putVs ks vs k d).length := by
  have lu := r.length
  unfold putK putKs putVs
  rw [mem_zip_any ks us k (by omega)]
  by_cases h : k ∈ ks
  · rw [if_pos h, if_pos h, if_pos (decide_eq_true h)]
    obtain ⟨ws, r1, e1⟩ := setK_rep (ks := ks) (k := k) r l hd
    exact ⟨ws, r1, e1, by rw [setK_len ks vs k d l]; exact l⟩
  · rw [if_neg h, if_neg h, if_neg (by simpa using h)]
    refine ⟨us ++ [u], r.snoc hd, ?_, by simp [l]⟩
    rw [List.zip_append (by omega)]; rfl
end

/-! ### in -/
def strIn (a b : List Nat) : Bool := !(Builtin.Str.occurrences (mkS b) (mkS a) 0 (mkS b).length 1).isEmpty
def inDS (neg : Bool) (x y : D) (S : List O) : R D :=
  match y with
  | .str b => (match x with
    | .str a => .ok (.bl (neg != strIn a b)) S
    | _ => .bad)
  | y => match seqOf S y with
    | some ds => if shD x && shD (.tup ds) then .ok (.bl (neg != ds.any fun z => eqD z x)) S else .bad
    | none => match dGet S y x with
      | some o => .ok (.bl (neg != o.isSome)) S
      | none => .bad
theorem pyL_map : ∀ ds : List D, pyL ds = ds.map pyD
  | [] => rfl
  | d :: ds => by show pyD d :: pyL ds = _; rw [pyL_map ds]; rfl
theorem any_py (x : D) (ds : List D) : (pyL ds).any (fun z => PyData.eqv z (pyD x)) = ds.any fun z => eqD z x := by
  rw [pyL_map, List.any_map]; rfl

section
variable {X : Cx} {F : Fx}
theorem op_ordS {op : CmpOp} {f : Int → Int → Bool} (h : OpR X (compareOp op) (rI0 fun i j => .bl (f i j))) : OpR X (compareOp op) (rP2 F (ordD f)) :=
  OpR.imp h fun x y H Q q => by
    obtain ⟨μ, S, d, e, rel, hd, he, p⟩ := q
    unfold ordD at p
    split at p
    · cases rep_int hd; cases rep_int he
      exact ⟨_, _, rfl, rfl, p.here rel rfl⟩
    · exact p.elim
theorem op_ltS : OpR X (compareOp .Lt) (rP2 F ltD) :=
  OpR.imp (op_lt.or op_lt_str) fun x y H Q q => by
    obtain ⟨μ, S, d, e, rel, hd, he, p⟩ := q
    unfold ltD at p
    split at p
    · cases rep_int hd; cases rep_int he
      exact .inl ⟨_, _, rfl, rfl, p.here rel rfl⟩
    · cases (show _ = _ from hd); cases (show _ = _ from he)
      exact .inr ⟨_, _, rfl, rfl, p.here rel rfl⟩
    · exact p.elim
def isNonD : D → Bool
  | .non => true
  | _ => false
theorem Rep.isNon {μ : Mu} {H : Hp} {d : D} {x : V} (h : Rep F μ H d x) : decide (x = .non) = isNonD d := by
  cases d with
  | non => cases (show _ = _ from h); rfl
  | bl b => cases (show _ = _ from h); rfl
  | int i => cases (show _ = _ from h); rfl
  | str cs => cases (show _ = _ from h); rfl
  | tup ds => obtain ⟨a, vs, rfl, _⟩ := h; rfl
  | lst ds => obtain ⟨a, vs, rfl, _⟩ := h; rfl
  | fl ds => obtain ⟨a, vs, rfl, _⟩ := h; rfl
  | ft ds => obtain ⟨a, vs, rfl, _⟩ := h; rfl
  | dk ks ds => obtain ⟨a, vs, rfl, _⟩ := h; rfl
  | dt ks ds => obtain ⟨a, vs, rfl, _⟩ := h; rfl
  | ins C fs ds => obtain ⟨a, dx, vs, rfl, _⟩ := h; rfl
  | ref n => obtain ⟨a, rfl, _⟩ := h; rfl
  | cls x => cases (show _ = _ from h); rfl
theorem is_cases (neg : Bool) {x y : V} {H : Hp} {Q : VK} (h : rP2 F (isD neg) x y H Q) : y = .non ∧ Q (.bl (neg != decide (x = .non))) H := by
  obtain ⟨μ, S, d, e, rel, hd, he, p⟩ := h
  unfold isD at p
  split at p
  · cases (show _ = _ from hd); cases (show _ = _ from he)
    exact ⟨rfl, p.here rel rfl⟩
  · rename_i hz
    refine ⟨he, ?_⟩
    rw [hd.isNon]
    have e : isNonD d = false := by
      cases d <;> first | rfl | exact (hz rfl).elim
    rw [e]; exact p.here rel rfl
  · exact p.elim
theorem op_isS : OpR X (compareOp .Is) (rP2 F (isD false)) := OpR.imp op_isN fun x y H Q h => by
  obtain ⟨h1, h2⟩ := is_cases false h
  rw [bne_false] at h2; exact ⟨h1, h2⟩
theorem op_isnS : OpR X (compareOp .IsNot) (rP2 F (isD true)) := OpR.imp op_notN fun x y H Q h => by
  obtain ⟨h1, h2⟩ := is_cases true h
  rw [bne_true] at h2; exact ⟨h1, h2⟩
theorem room_in2 {d : D} {ds : PyData} (h : shD d = true) (hu : X.A.units + 64 < cLine) : X.A.units + 1 + min (PyData.depthAll (match ds with | .tuple xs => xs | _ => [])) (pyD d).depth < cLine := by
  have := of_decide_eq_true (Bool.and_eq_true_iff.mp h).2
  have := Nat.min_le_right (PyData.depthAll (match ds with | .tuple xs => xs | _ => [])) (pyD d).depth
  omega
theorem room_in3 {d : D} (n : Nat) (h : shD d = true) (hu : X.A.units + 64 < cLine) : X.A.units + 1 + min n (pyD d).depth < cLine := by
  have := of_decide_eq_true (Bool.and_eq_true_iff.mp h).2
  have := Nat.min_le_right n (pyD d).depth
  omega
theorem op_inS (hk : F.K = X.K) (hu : X.A.units + 64 < cLine) : OpR X (compareOp .In) (rP2 F (inDS false)) := by
  intro pins s σ H x y v u Q I rx ry h
  obtain ⟨μ, S, d, e, rel, hd, he, p⟩ := h
  unfold inDS at p
  split at p
  · split at p
    · cases (show _ = _ from hd); cases (show _ = _ from he)
      exact op_in_str pins s σ H _ _ v u Q I rx ry ⟨_, _, rfl, rfl, by have := p.here rel rfl; rw [bne_false] at this; exact this⟩
    · exact p.elim
  · split at p
    · rename_i ds eds
      obtain ⟨a, vs, rfl, q, r⟩ := seqOf_rep rel he eds
      split at p
      · rename_i hs
        have hs := Bool.and_eq_true_iff.mp hs
        have o1 := (Bool.and_eq_true_iff.mp hs.1).1
        have o2 : okL ds = true := (Bool.and_eq_true_iff.mp hs.2).1
        have hQ : Q (.bl ((pyL ds).any fun z => PyData.eqv z (pyD d))) H := by
          rw [any_py]; have := p.here rel rfl; rw [bne_false] at this; exact this
        obtain ⟨as, r1⟩ := Dp.reads I _ x v (hk ▸ Rep.dp d x o1 hd) rx
        rcases q with q | q
        · obtain ⟨bs, r2⟩ := Dp.reads I (.list (pyL ds)) _ u (.lst (hk ▸ q) (hk ▸ RepL.dp ds vs o2 r)) ry
          exact SeqAt.in_list_reads r2 r1 (okL_lay ds o2) (okD_lay d o1) (room_in3 _ hs.1 hu) ⟨.bl _, H, I, rfl, hQ⟩
        · obtain ⟨bs, r2⟩ := Dp.reads I (.tuple (pyL ds)) _ u (.tup (hk ▸ q) (hk ▸ RepL.dp ds vs o2 r)) ry
          exact SeqAt.in_tuple_reads r2 r1 (okL_lay ds o2) (okD_lay d o1) (room_in3 _ hs.1 hu) ⟨.bl _, H, I, rfl, hQ⟩
      · exact p.elim
    · split at p
      · rename_i o eo
        obtain ⟨a, ov, rfl, g, _, n1, n2⟩ := dGet_rep rel he hd eo
        cases ry
        refine d_in (o := ov) (by omega) I g rx fun s' I' => ⟨.bl _, H, I', rfl, ?_⟩
        have e1 : ov.isSome = o.isSome := by
          cases o with
          | none => rw [n1 rfl]; rfl
          | some w => obtain ⟨u, e, _⟩ := n2 w rfl; rw [e]; rfl
        rw [e1]; have := p.here rel rfl; rw [bne_false] at this; exact this
      · exact p.elim
theorem op_ninS (hk : F.K = X.K) (hu : X.A.units + 64 < cLine) : OpR X (compareOp .NotIn) (rP2 F (inDS true)) := by
  intro pins s σ H x y v u Q I rx ry h
  obtain ⟨μ, S, d, e, rel, hd, he, p⟩ := h
  unfold inDS at p
  split at p
  · split at p
    · cases (show _ = _ from hd); cases (show _ = _ from he)
      exact op_notin_str pins s σ H _ _ v u Q I rx ry ⟨_, _, rfl, rfl, by have := p.here rel rfl; rw [bne_true] at this; exact this⟩
    · exact p.elim
  · split at p
    · rename_i ds eds
      obtain ⟨a, vs, rfl, q, r⟩ := seqOf_rep rel he eds
      split at p
      · rename_i hs
        have hs := Bool.and_eq_true_iff.mp hs
        have o1 := (Bool.and_eq_true_iff.mp hs.1).1
        have o2 : okL ds = true := (Bool.and_eq_true_iff.mp hs.2).1
        have hQ : Q (.bl (!(pyL ds).any fun z => PyData.eqv z (pyD d))) H := by
          rw [any_py]; have := p.here rel rfl; rw [bne_true] at this; exact this
        obtain ⟨as, r1⟩ := Dp.reads I _ x v (hk ▸ Rep.dp d x o1 hd) rx
        rcases q with q | q
        · obtain ⟨bs, r2⟩ := Dp.reads I (.list (pyL ds)) _ u (.lst (hk ▸ q) (hk ▸ RepL.dp ds vs o2 r)) ry
          exact SeqAt.notIn_list_reads r2 r1 (okL_lay ds o2) (okD_lay d o1) (room_in3 _ hs.1 hu) ⟨.bl _, H, I, rfl, hQ⟩
        · obtain ⟨bs, r2⟩ := Dp.reads I (.tuple (pyL ds)) _ u (.tup (hk ▸ q) (hk ▸ RepL.dp ds vs o2 r)) ry
          exact SeqAt.notIn_tuple_reads r2 r1 (okL_lay ds o2) (okD_lay d o1) (room_in3 _ hs.1 hu) ⟨.bl _, H, I, rfl, hQ⟩
      · exact p.elim
    · split at p
      · rename_i o eo
        obtain ⟨a, ov, rfl, g, _, n1, n2⟩ := dGet_rep rel he hd eo
        cases ry
        refine d_notIn (o := ov) (by omega) I g rx fun s' I' => ⟨.bl _, H, I', rfl, ?_⟩
        have e1 : ov.isSome = o.isSome := by
          cases o with
          | none => rw [n1 rfl]; rfl
          | some w => obtain ⟨u, e, _⟩ := n2 w rfl; rw [e]; rfl
        rw [e1]; have := p.here rel rfl; rw [bne_true] at this; exact this
      · exact p.elim
@[simp] def cmpD : CmpOp → D → D → List O → R D
  | .Eq => eqDS false
  | .NotEq => eqDS true
  | .Lt => ltD
  | .LtE => ordD fun i j => decide (i ≤ j)
  | .Gt => ordD fun i j => decide (j < i)
  | .GtE => ordD fun i j => decide (j ≤ i)
  | .Is => isD false
  | .IsNot => isD true
  | .In => inDS false
  | .NotIn => inDS true
theorem op_cmpS (hk : F.K = X.K) (hu : X.A.units + 64 < cLine) : ∀ op, OpR X (compareOp op) (rP2 F (cmpD op))
  | .Eq => op_eqS hk hu
  | .NotEq => op_neS hk hu
  | .Lt => op_ltS
  | .LtE => op_ordS op_le
  | .Gt => op_ordS op_gt
  | .GtE => op_ordS op_ge
  | .Is => op_isS
  | .IsNot => op_isnS
  | .In => op_inS hk hu
  | .NotIn => op_ninS hk hu
theorem op_mulS (hk : F.K = X.K) : OpR X (binaryOp .Mult) (rP2 F mulD) := by
  have h := (op_mul (X := X)).or (op_mulW.or (op_mulStr.or op_repT))
  intro pins s σ H x y v u Q I rx ry q
  obtain ⟨μ, S, d, e, rel, hd, he, p⟩ := q
  unfold mulD at p
  split at p
  · cases rep_int hd; cases rep_int he
    split at p
    · rename_i hh
      rcases hh with hh | hh
      · exact h pins s σ H _ _ v u Q I rx ry (.inl ⟨_, _, rfl, rfl, hh, p.here rel rfl⟩)
      · exact h pins s σ H _ _ v u Q I rx ry (.inr (.inl ⟨_, _, rfl, rfl, hh, p.here rel rfl⟩))
    · exact p.elim
  · cases (show _ = _ from hd); cases rep_int he
    split at p
    · rename_i hh
      exact h pins s σ H _ _ v u Q I rx ry (.inr (.inr (.inl ⟨_, _, rfl, rfl, hh.1, hh.2.1, hh.2.2, p.here rel rfl⟩)))
    · exact p.elim
  · cases rep_int he
    split at p
    · rename_i a k hh
      obtain ⟨p1, vs, rfl, q1, r1⟩ := hd.seqT
      refine h pins s σ H _ _ v u Q I rx ry (.inr (.inr (.inr ⟨_, _, vs, rfl, rfl, hk ▸ q1, fun z => hh.1 ?_, hh.2.1, hh.2.2.1, by rw [r1.length]; exact hh.2.2.2, ?_⟩)))
      · exact List.eq_nil_of_length_eq_zero (by rw [← r1.length, z]; rfl)
      · refine p.tup rel ?_
        have rr : ∀ n : Nat, RepL F μ H (repL n a) (List.replicate n vs).flatten := fun n => by
          induction n with
          | zero => exact rfl
          | succ n ih => simp only [repL, List.replicate_succ, List.flatten_cons]; exact r1.append ih
        exact rr _
    · exact p.elim
  · exact p.elim
theorem op_binS (hk : F.K = X.K) : ∀ op, OpR X (binaryOp op) (rP2 F (binD op))
  | .Add => op_addS hk
  | .Sub => op_subS
  | .Mult => op_mulS hk
  | .FloorDiv => op_fdivS
  | .Mod => op_modS
  | .Pow => op_powS
  | .LShift => op_shlS
  | .RShift => op_shrS
  | .BitAnd => op_bit op_and
  | .BitOr => op_bit op_or
  | .BitXor => op_bit op_xor
  | .MatMult => fun _ _ _ _ _ _ _ _ _ _ _ _ h => by obtain ⟨μ, S, d, e, rel, hd, he, p⟩ := h; exact p.elim
  | .Div => fun _ _ _ _ _ _ _ _ _ _ _ _ h => by obtain ⟨μ, S, d, e, rel, hd, he, p⟩ := h; exact p.elim
end
end Ev
end
section
set_option Elab.async false
set_option linter.all false
set_option maxRecDepth 100000
set_option maxHeartbeats 4000000
set_option autoImplicit false
/-! Ev, part B3b: int(t, 2), turned from the rule for int(t, 16). -/
namespace Ev
open PySem PySem.Spec PyProof.Rows L2

def bitsV (cs : List Nat) : Nat := cs.foldl (fun a c => a * 2 + (c - 48)) 0
def binB (cs : List Nat) : Bool := cs.all fun c => decide (48 ≤ c ∧ c ≤ 49)
namespace Bx
open PySem.NumText PySem.Calls
def Is (c : Nat) : Prop := 48 ≤ c ∧ c ≤ 49
theorem digit_b {c : Nat} (h : Is c) : digit? c = some (c - 48) := by
  unfold Is at h
  unfold digit?
  rw [if_pos (L2.Hx.bb (show 48 ≤ c from h.1) (show c ≤ 57 by omega))]
theorem step_b {ds : Array Nat} {b : Bool} {c : Nat} (h : Is c) : PySem.NumText.step 2 (ds, b) c = some (ds.push (c - 48), true) := by
  unfold PySem.NumText.step
  rw [if_neg (by rw [beq_iff_eq]; unfold Is at h; omega), digit_b h]
  exact if_pos (by unfold Is at h; omega)
theorem foldl_b : ∀ (cs : List Nat) (ds : Array Nat), (∀ c ∈ cs, Is c) → cs.foldlM (PySem.NumText.step 2) (ds, true) = some (cs.foldl (fun acc c => acc.push (c - 48)) ds, true)
  | [], _, _ => rfl
  | c :: cs, ds, h => by
    rw [List.foldlM_cons, step_b (h c (List.mem_cons_self ..))]
    show cs.foldlM (PySem.NumText.step 2) (ds.push (c - 48), true) = _
    exact foldl_b cs (ds.push (c - 48)) fun d hd => h d (List.mem_cons_of_mem _ hd)
theorem digits_b {cs : List Nat} (h : ∀ c ∈ cs, Is c) (hne : cs ≠ []) : digits? 2 cs = some (cs.foldl (fun acc c => acc.push (c - 48)) #[]) := by
  cases cs with
  | nil => exact absurd rfl hne
  | cons c cs =>
    unfold digits?
    rw [List.foldlM_cons, step_b (h c (List.mem_cons_self ..))]
    show (cs.foldlM (PySem.NumText.step 2) ((#[] : Array Nat).push (c - 48), true)).bind _ = _
    rw [foldl_b cs _ fun d hd => h d (List.mem_cons_of_mem _ hd)]
    rfl
theorem push_b : ∀ (cs : List Nat) (ds : Array Nat), (cs.foldl (fun acc c => acc.push (c - 48)) ds).foldl (fun acc d => acc * 2 + d) 0 = cs.foldl (fun a c => a * 2 + (c - 48)) (ds.foldl (fun acc d => acc * 2 + d) 0)
  | [], _ => rfl
  | c :: cs, ds => by
    rw [List.foldl_cons, push_b cs (ds.push (c - 48)), List.foldl_cons]
    congr 1
    simp
theorem dropB {cs : List Nat} (h : ∀ c ∈ cs, Is c) : cs.dropWhile blank = cs := by
  cases cs with
  | nil => rfl
  | cons c cs => exact dropWhile_of (by have := h c (List.mem_cons_self ..); unfold Is at this; omega)
theorem signB {cs : List Nat} (h : ∀ c ∈ cs, Is c) : sign cs = (false, cs) := by
  cases cs with
  | nil => rfl
  | cons c cs =>
    have := h c (List.mem_cons_self ..)
    unfold Is at this
    exact sign_of (by omega) (by omega)
theorem basedB {cs : List Nat} (h : ∀ c ∈ cs, Is c) : based 2 cs = (2, false, cs) := by
  have two : ∀ {c : Nat}, Is c → c = 48 ∨ c = 49 := fun {c} h => by unfold Is at h; omega
  match cs, h with
  | [], _ => rfl
  | [a], h =>
    rcases two (h a (List.mem_cons_self ..)) with rfl | rfl
    · rfl
    · rfl
  | a :: c :: r, h =>
    rcases two (h a (List.mem_cons_self ..)) with rfl | rfl
    · rcases two (h c (List.mem_cons_of_mem _ (List.mem_cons_self ..))) with rfl | rfl
      · rfl
      · rfl
    · rfl
theorem read_b {cs : List Nat} (h : ∀ c ∈ cs, Is c) (hne : cs ≠ []) : (int_private% "readNumeral") 0 2 cs = (int_private% "Numeral.value") ((bitsV cs : Nat) : Int) := by
  have hr : ∀ c ∈ cs.reverse, Is c := fun c hc => h c (List.mem_reverse.mp hc)
  refine (readNumeral_eq 0 2 cs).trans ?_
  rw [dropB h, signB h]
  show judge 0 false (based 2 cs).1 (based 2 cs).2.1 (digits? (based 2 cs).1 (((based 2 cs).2.2.reverse.dropWhile blank).reverse)) = _
  rw [basedB h]
  show judge 0 false 2 false (digits? 2 ((cs.reverse.dropWhile blank).reverse)) = _
  rw [dropB hr, List.reverse_reverse, digits_b h hne]
  show (int_private% "Numeral.value") (((cs.foldl (fun acc c => acc.push (c - 48)) (#[] : Array Nat)).foldl (fun acc d => acc * 2 + d) 0 : Nat) : Int) = _
  have z : (#[] : Array Nat).foldl (fun acc d => acc * 2 + d) 0 = 0 := by first | rfl | simp
  rw [push_b, z] <;> rfl
theorem seen_b {x : Str} (h : ∀ c ∈ x.cps.toList, Is c) : numTextOf x = x.cps.toList ∧ numSeenOf x = x.cps.toList := by
  have e1 : numTextOf x = x.cps.toList := by
    refine if_pos ?_
    rw [← Array.all_toList, List.all_eq_true]
    intro c hc
    have := h c hc
    unfold Is at this
    exact decide_eq_true (by omega)
  refine ⟨e1, ?_⟩
  show (numTextOf x).takeWhile _ = _
  rw [e1]
  refine takeWhile_all fun c hc => ?_
  have := h c hc
  unfold Is at this
  exact bne_iff_ne.mpr (by omega)
theorem gives_b {x : PySem.Str} {u t : Tok} (hl : x.length ≤ 640) (h : ∀ c ∈ x.cps.toList, Is c) (hne : x.cps.toList ≠ []) :
    Gives (Builtin.«int.__new__» ⟨[.type "int", .str x u, .int 2 t], []⟩) (.int ((bitsV x.cps.toList : Nat) : Int)) :=
  .of_wp fun M A E s Q hQ => by
    obtain ⟨hp, g, d, tk, os⟩ := s
    have f1 := F.conv_sub_int
    have f2 := F.madeHere_int
    have f6 : typeOf (.str x u) = pure (.type "str") := rfl
    obtain ⟨e1, e2⟩ := seen_b h
    have hs : (numSeenOf x).length ≤ 640 := by
      rw [e2, Array.length_toList]
      exact hl
    have hr : (int_private% "readNumeral") 0 2 (numSeenOf x) = (int_private% "Numeral.value") ((bitsV x.cps.toList : Nat) : Int) := by
      rw [e2]
      exact read_b h hne
    have ha : ((numSeenOf x).length == (numTextOf x).length) = true := by
      rw [e1, e2]
      exact beq_self_eq_true _
    have hk := L2.Hx.Hid.mk (And.intro hs (And.intro hr ha))
    clear hs hr ha e1 e2 hl hne h
    repeat (any_goals (first
      | assumption
      | ((with_reducible show wpAny _ _ ((int_private% "intFromText") _ _ _) _ _ _); refine L2.Hx.wp_textB hk.out.1 hk.out.2.1 hk.out.2.2 ?_)
      | wp_step))
    all_goals first | exact ⟨_, rfl, hQ⟩ | skip
theorem call_b {prog : Program} {w : World} {A : Around} {E : Value → Shared → Prop} {s : Shared} {Q : Value → Shared → Prop} {x : PySem.Str} {u t : Tok} (hl : x.length ≤ 640) (h : ∀ c ∈ x.cps.toList, Is c) (hne : x.cps.toList ≠ [])
    (hQ : Q (.int ((bitsV x.cps.toList : Nat) : Int) s.toks) { s with toks := s.toks + 1 }) : wpAny (model prog w) A (call (.type "int") [.str x u, .int 2 t]) Q E s :=
  callType_new F.called_int F.newNe_int (L2.Hx.typeCall_int_2 _ _) (L2.Hx.newCall_int_2 _ _) (fun obj => F.initArgs_range_2 obj _ _) F.entry_int_new (gives_b hl h hne).meets (show (Made.int ((bitsV x.cps.toList : Nat) : Int)).post _ s from ⟨rfl, hQ⟩)
end Bx
theorem call_int_b {X : Cx} : CallR X (.type "int") (fun xs H Q => ∃ l : List Nat, xs = [.str (mkS l), .int 2] ∧ l ≠ [] ∧ l.length ≤ 640 ∧ binB l = true ∧ Q (.int ((bitsV l : Nat) : Int)) H) := by
  intro pins s σ H xs us Q I r h
  obtain ⟨l, rfl, hne, hl, hx, q⟩ := h
  obtain ⟨u, w', rfl, r1, r2⟩ := vals2 r
  obtain ⟨t1, rfl⟩ := r1
  obtain ⟨t2, rfl⟩ := r2
  refine Bx.call_b (x := mkS l) (by show l.toArray.size ≤ 640; simpa using hl) (fun c hc => ?_) hne ⟨.int ((bitsV l : Nat) : Int), H, I.tok _, ⟨_, rfl⟩, q⟩
  have := of_decide_eq_true (List.all_eq_true.mp hx c hc)
  exact this
end Ev
end
section
set_option Elab.async false
set_option linter.all false
set_option maxRecDepth 100000
set_option maxHeartbeats 4000000
set_option autoImplicit false
/-! Ev, part B4: subscripts, stores, truth, built-in calls and methods. -/
namespace Ev
open PySem PySem.Spec PyProof.Rows L2

def idxD (x y : D) (S : List O) : R D :=
  match x, y with
  | .str cs, .int i => if cs.length ≤ sizeLine then (match atI cs i with
    | some c => .ok (.str [c]) S
    | none => .bad) else .bad
  | x, y => match seqOf S x with
    | some ds => (match y with
      | .int i => (match atI ds i with
        | some d => .ok d S
        | none => .bad)
      | _ => .bad)
    | none => match dGet S x y with
      | some (some w) => .ok w S
      | _ => .bad
def cutL {α : Type} (xs : List α) (lo hi : Option Int) : List α := (xs.drop (HT.sIx xs.length 0 lo)).take (HT.sIx xs.length xs.length hi - HT.sIx xs.length 0 lo)
def sliceD (x : D) (lo hi : Option Int) (S : List O) : R D :=
  match x with
  | .str cs => if cs.length ≤ sizeLine then .ok (.str (cutL cs lo hi)) S else .bad
  | .tup ds => .ok (.tup (cutL ds lo hi)) S
  | x => match rdL S x with
    | some ds => .ok (.lst (cutL ds lo hi)) S
    | none => .bad
def setD (x y w : D) (S : List O) : R Unit :=
  match x with
  | .ref n => (match S[n]? with
    | some (.lst ds) => (match y with
      | .int i => (match ixN ds.length i with
        | some j => .ok () (S.set n (.lst (ds.set j w)))
        | none => .bad)
      | _ => .bad)
    | some (.dK ks vs) => (match keyD y with
      | some k => if ks.length < sizeLine then .ok () (S.set n (.dK (putKs ks k) (putVs ks vs k w))) else .bad
      | none => .bad)
    | some (.dT ks vs) => (match keyT y with
      | some k => if ks.length < sizeLine then .ok () (S.set n (.dT (putKs ks k) (putVs ks vs k w))) else .bad
      | none => .bad)
    | _ => .bad)
  | _ => .bad
@[simp] def truthD (x : D) (S : List O) : Option Bool :=
  match x with
  | .non => some false
  | .bl b => some b
  | .int i => some (i != 0)
  | .str cs => if cs.length ≤ sizeLine then some (!cs.isEmpty) else none
  | x => match seqOf S x with
    | some ds => some (!ds.isEmpty)
    | none => match dkOf S x with
      | some (ks, _) => some (!ks.isEmpty)
      | none => none

def PU (F : Fx) (μ : Mu) (H : Hp) (r : R Unit) (Q : Hp → Prop) : Prop := match r with
  | .ok _ S' => ∀ μ' H', Ext μ H μ' H' → Rel F μ' S' H' → Q H'
  | _ => False
def rP3 (F : Fx) (f : D → D → D → List O → R Unit) : TSet := fun x y z H Q => ∃ μ S d e w, Rel F μ S H ∧ Rep F μ H d x ∧ Rep F μ H e y ∧ Rep F μ H w z ∧ PU F μ H (f d e w S) Q

section
variable {X : Cx} {F : Fx}
theorem atI_rep {μ : Mu} {H : Hp} {ds : List D} {vs : List V} {i : Int} {d : D} (r : RepL F μ H ds vs) (h : atI ds i = some d) : ∃ v, atI vs i = some v ∧ Rep F μ H d v := by
  unfold atI at h ⊢
  obtain ⟨j, h1, h2⟩ := Option.bind_eq_some_iff.mp h
  obtain ⟨v, e, rv⟩ := r.get h2
  exact ⟨v, by rw [r.length, h1]; exact e, rv⟩
theorem ix_S (hk : F.K = X.K) (hu : X.A.units + 64 < cLine) : IxR X (rP2 F idxD) := by
  intro value slice pins s σ H x y v u Q I rx ry h hs
  obtain ⟨μ, S, d, e, rel, hd, he, p⟩ := h
  unfold idxD at p
  split at p
  · split at p
    · split at p
      · rename_i cs i hl _ c hc
        cases (show _ = _ from hd); cases rep_int he
        exact ix_str value slice pins s σ H _ _ v u Q I rx ry ⟨_, _, c, rfl, rfl, by rw [mkS_len]; exact hl, hc, p.here rel rfl⟩ hs
      · exact p.elim
    · exact p.elim
  · split at p
    · rename_i ds eds
      obtain ⟨a, vs, rfl, q, r⟩ := seqOf_rep rel hd eds
      split at p
      · split at p
        · rename_i i w hw
          cases rep_int he
          obtain ⟨z, hz, rz⟩ := atI_rep r hw
          rcases q with q | q
          · exact ix_list value slice pins s σ H _ _ v u Q I rx ry ⟨a, vs, _, z, rfl, rfl, hk ▸ q, hz, p.here rel rz⟩ hs
          · exact ix_tup value slice pins s σ H _ _ v u Q I rx ry ⟨a, vs, _, z, rfl, rfl, hk ▸ q, hz, p.here rel rz⟩ hs
        · exact p.elim
      · exact p.elim
    · split at p
      · rename_i w eo
        obtain ⟨a, ov, rfl, g, _, n1, n2⟩ := dGet_rep rel hd he eo
        obtain ⟨z, ez, rz⟩ := n2 w rfl
        subst ez
        cases rx
        exact tail_any (dict_typeIs I g) PySem.F.slot_dict_getitem.lookup (d_getItem (by omega) I g ry fun w' s3 I3 rw' => ⟨z, H, I3, rw', p.here rel rz⟩) hs
      · exact p.elim
theorem RepL.cut {μ : Mu} {H : Hp} {ds : List D} {vs : List V} (lo hi : Option Int) (r : RepL F μ H ds vs) : RepL F μ H (cutL ds lo hi) (cutV vs lo hi) := by
  unfold cutL cutV
  rw [r.length]
  exact (r.drop _).take _
theorem cutL_all {α : Type} {xs : List α} {lo hi : Option Int} (h : HT.sIx xs.length 0 lo = 0 ∧ HT.sIx xs.length xs.length hi = xs.length) : cutL xs lo hi = xs := by
  unfold cutL
  rw [h.1, h.2]; simp
theorem cutS_mk (cs : List Nat) (lo hi : Option Int) : cutS (mkS cs) lo hi = mkS (cutL cs lo hi) := by
  unfold cutS cutL
  rw [mkS_len]
def rPs (F : Fx) : V → Option Int → Option Int → Hp → VK → Prop := fun x lo hi H Q => ∃ μ S d, Rel F μ S H ∧ Rep F μ H d x ∧ P1 F μ H (sliceD d lo hi S) Q
theorem sl_S (hk : F.K = X.K) : SlR X (rPs F) := by
  intro pins s σ H x v vl vu lo hi sl Q I rx hs pl pu h
  obtain ⟨μ, S, d, rel, hd, p⟩ := h
  unfold sliceD at p
  split at p
  · split at p
    · rename_i hl
      cases (show _ = _ from hd)
      exact sl_str pins s σ H _ v vl vu lo hi sl Q I rx hs pl pu ⟨_, rfl, by rw [mkS_len]; exact hl, by rw [cutS_mk]; exact p.here rel rfl⟩
    · exact p.elim
  · rename_i ds
    obtain ⟨a, vs, rfl, q, r⟩ := hd.seqT
    refine sl_tupA pins s σ H _ v vl vu lo hi sl Q I rx hs pl pu ⟨a, vs, rfl, hk ▸ q, fun hw => ?_, fun _ => p.tup rel (r.cut lo hi)⟩
    rw [r.length] at hw
    rw [cutL_all hw] at p
    exact p.here rel hd
  · split at p
    · rename_i ds e
      obtain ⟨a, vs, rfl, q, r⟩ := rdL_rep rel hd e
      exact sl_list pins s σ H _ v vl vu lo hi sl Q I rx hs pl pu ⟨a, vs, rfl, hk ▸ q, p.lst rel (r.cut lo hi)⟩
    · exact p.elim
theorem set_S (hu : X.A.units + 64 < cLine) : PSet X (rP3 F setD) := by
  intro pins s σ H o i v ov iv u Q I ro ri rv h
  obtain ⟨μ, S, d, e, w, rel, hd, he, hw, p⟩ := h
  unfold setD at p
  split at p
  · rename_i n
    obtain ⟨a, rfl, hm⟩ := hd
    have hmem : a ∈ μ := List.mem_of_getElem? hm
    split at p
    · rename_i ds hn
      obtain ⟨vs, q, r⟩ := rel.obj n _ a hn hm
      split at p
      · split at p
        · rename_i k _ j hj
          cases rep_int he
          refine set_list pins s σ H _ _ v ov iv u Q I ro ri rv ⟨a, vs, k, j, rfl, rfl, q, by rw [r.length]; exact hj, ?_⟩
          exact p μ _ (Ext.wr hmem) (rel.wr hm ⟨_, upd_same, (r.set j hw).mono (Ext.wr hmem)⟩)
        · exact p.elim
      · exact p.elim
    · rename_i ks vs hn
      obtain ⟨us, q, l, r⟩ := rel.obj n _ a hn hm
      split at p
      · split at p
        · rename_i k ek hl
          cases keyD_rep he ek
          cases ro
          obtain ⟨ws, r1, e1, l1⟩ := putK_rep (k := k) r l hw
          refine d_setItem (H' := upd H a (.dK (putK (ks.zip us) k v))) (by omega) I (DPut.k q ?_) ri rv fun s' I' => ⟨_, I', ?_⟩
          · rw [List.length_zip]; omega
          · exact p μ _ (Ext.wr hmem) (rel.wr hm ⟨ws, by rw [upd_same, e1], l1, r1.mono (Ext.wr hmem)⟩)
        · exact p.elim
      · exact p.elim
    · rename_i ks vs hn
      obtain ⟨us, q, l, r⟩ := rel.obj n _ a hn hm
      split at p
      · split at p
        · rename_i k ek hl
          obtain ⟨b, rfl, hb⟩ := keyT_rep he ek
          cases ro
          obtain ⟨ws, r1, e1, l1⟩ := putK_rep (k := k) r l hw
          refine d_setItem (H' := upd H a (.dT (putK (ks.zip us) k v))) (by omega) I (DPut.t q hb ?_) ri rv fun s' I' => ⟨_, I', ?_⟩
          · rw [List.length_zip]; omega
          · exact p μ _ (Ext.wr hmem) (rel.wr hm ⟨ws, by rw [upd_same, e1], l1, r1.mono (Ext.wr hmem)⟩)
        · exact p.elim
      · exact p.elim
    · exact p.elim
  · exact p.elim
def rPt (F : Fx) : V → Hp → (Bool → Hp → Prop) → Prop := fun x H Q => ∃ μ S d b, Rel F μ S H ∧ Rep F μ H d x ∧ truthD d S = some b ∧ Q b H
theorem isE_zip {κ : Type} {ks : List κ} {us : List V} (h : ks.length = us.length) : (ks.zip us).isEmpty = ks.isEmpty := by
  cases ks with
  | nil => rfl
  | cons a as => cases us with
    | nil => simp at h
    | cons u us => rfl
theorem isE_len {α β : Type} {xs : List α} {ys : List β} (h : xs.length = ys.length) : xs.isEmpty = ys.isEmpty := by
  cases xs with
  | nil => cases ys with
    | nil => rfl
    | cons _ _ => simp at h
  | cons _ _ => cases ys with
    | nil => simp at h
    | cons _ _ => rfl
theorem tru_S (hk : F.K = X.K) : TruR X (rPt F) := by
  intro pins s σ H x v Q I rx h
  obtain ⟨μ, S, d, b, rel, hd, p, q⟩ := h
  refine tru_ok pins s σ H x v Q I rx ⟨b, ?_, q⟩
  unfold truthD at p
  split at p
  · cases (show _ = _ from hd); cases p; rfl
  · cases (show _ = _ from hd); cases p; rfl
  · cases rep_int hd; cases p; rfl
  · split at p
    · rename_i cs hl
      cases (show _ = _ from hd); cases p
      refine ⟨by rw [mkS_len]; exact hl, ?_⟩
      rw [mkS_len]
      cases cs <;> simp
      omega
    · cases p
  · split at p
    · rename_i ds e
      cases p
      obtain ⟨a, vs, rfl, z, r⟩ := seqOf_rep rel hd e
      have el := isE_len r.length
      rcases z with z | z
      · exact .inl ⟨vs, hk ▸ z, by rw [el]⟩
      · exact .inr (.inl ⟨vs, hk ▸ z, by rw [el]⟩)
    · split at p
      · rename_i ks vs e
        cases p
        obtain ⟨a, us, rfl, z, l, r⟩ := dkOf_rep rel hd e
        exact .inr (.inr ⟨_, z, by rw [isE_zip (by rw [r.length]; exact l)]⟩)
      · cases p
end

/-! ### built-in functions and types -/
inductive BI where
  | len | abs | int | tuple | list | all | any | sum | max | min | sorted | str | repr | set | dict
  deriving DecidableEq
def intsOf : List D → Option (List Int)
  | [] => some []
  | .int i :: ds => (intsOf ds).map (i :: ·)
  | _ => none
def blsOf : List D → Option (List Bool)
  | [] => some []
  | .bl i :: ds => (blsOf ds).map (i :: ·)
  | _ => none
def strsOf : List D → Option (List (List Nat))
  | [] => some []
  | .str i :: ds => (strsOf ds).map (i :: ·)
  | _ => none
theorem intsOf_eq : ∀ {ds : List D} {ns : List Int}, intsOf ds = some ns → ds = ns.map D.int
  | [], _, h => by cases h; rfl
  | .int i :: ds, ns, h => by
    obtain ⟨r, e, rfl⟩ := Option.map_eq_some_iff.mp (show (intsOf ds).map (i :: ·) = some ns from h)
    rw [intsOf_eq e]; rfl
theorem blsOf_eq : ∀ {ds : List D} {ns : List Bool}, blsOf ds = some ns → ds = ns.map D.bl
  | [], _, h => by cases h; rfl
  | .bl i :: ds, ns, h => by
    obtain ⟨r, e, rfl⟩ := Option.map_eq_some_iff.mp (show (blsOf ds).map (i :: ·) = some ns from h)
    rw [blsOf_eq e]; rfl
theorem strsOf_eq : ∀ {ds : List D} {ns : List (List Nat)}, strsOf ds = some ns → ds = ns.map D.str
  | [], _, h => by cases h; rfl
  | .str i :: ds, ns, h => by
    obtain ⟨r, e, rfl⟩ := Option.map_eq_some_iff.mp (show (strsOf ds).map (i :: ·) = some ns from h)
    rw [strsOf_eq e]; rfl
@[simp] theorem intsOf_map (ns : List Int) : intsOf (ns.map D.int) = some ns := by
  induction ns with
  | nil => rfl
  | cons n ns ih => simp [intsOf, ih]
@[simp] theorem blsOf_map (ns : List Bool) : blsOf (ns.map D.bl) = some ns := by
  induction ns with
  | nil => rfl
  | cons n ns ih => simp [blsOf, ih]
@[simp] theorem strsOf_map (ns : List (List Nat)) : strsOf (ns.map D.str) = some ns := by
  induction ns with
  | nil => rfl
  | cons n ns ih => simp [strsOf, ih]
def maxL : Int → List Int → Int
  | a, [] => a
  | a, b :: r => maxL (if b > a then b else a) r
def minL : Int → List Int → Int
  | a, [] => a
  | a, b :: r => minL (if b < a then b else a) r
theorem maxL_le : ∀ (a : Int) (l : List Int), a ≤ maxL a l ∧ ∀ x ∈ l, x ≤ maxL a l
  | a, [] => ⟨Int.le_refl _, fun _ h => by cases h⟩
  | a, b :: r => by
    obtain ⟨h1, h2⟩ := maxL_le (if b > a then b else a) r
    unfold maxL
    have h3 : a ≤ maxL (if b > a then b else a) r ∧ b ≤ maxL (if b > a then b else a) r := by
      by_cases hb : b > a
      · rw [if_pos hb] at h1 ⊢; exact ⟨by omega, h1⟩
      · rw [if_neg hb] at h1 ⊢; exact ⟨h1, by omega⟩
    refine ⟨h3.1, fun x hx => ?_⟩
    rcases List.mem_cons.mp hx with rfl | hx
    · exact h3.2
    · exact h2 x hx
theorem maxL_mem : ∀ (a : Int) (l : List Int), maxL a l ∈ a :: l
  | a, [] => List.mem_cons_self
  | a, b :: r => by
    have h := maxL_mem (if b > a then b else a) r
    unfold maxL
    rcases List.mem_cons.mp h with h | h
    · rw [h]; split <;> simp
    · simp [h]
theorem minL_le : ∀ (a : Int) (l : List Int), minL a l ≤ a ∧ ∀ x ∈ l, minL a l ≤ x
  | a, [] => ⟨Int.le_refl _, fun _ h => by cases h⟩
  | a, b :: r => by
    obtain ⟨h1, h2⟩ := minL_le (if b < a then b else a) r
    unfold minL
    have h3 : minL (if b < a then b else a) r ≤ a ∧ minL (if b < a then b else a) r ≤ b := by
      by_cases hb : b < a
      · rw [if_pos hb] at h1 ⊢; exact ⟨by omega, h1⟩
      · rw [if_neg hb] at h1 ⊢; exact ⟨h1, by omega⟩
    refine ⟨h3.1, fun x hx => ?_⟩
    rcases List.mem_cons.mp hx with rfl | hx
    · exact h3.2
    · exact h2 x hx
theorem minL_mem : ∀ (a : Int) (l : List Int), minL a l ∈ a :: l
  | a, [] => List.mem_cons_self
  | a, b :: r => by
    have h := minL_mem (if b < a then b else a) r
    unfold minL
    rcases List.mem_cons.mp h with h | h
    · rw [h]; split <;> simp
    · simp [h]

def lenD (xs : List D) (S : List O) : R D := match xs with
  | [.str cs] => if cs.length ≤ sizeLine then .ok (.int cs.length) S else .bad
  | [x] => (match seqOf S x with
    | some ds => .ok (.int ds.length) S
    | none => match dkOf S x with
      | some (ks, _) => .ok (.int ks.length) S
      | none => match dtOf S x with
        | some (ks, _) => .ok (.int ks.length) S
        | none => .bad)
  | _ => .bad
def absD (xs : List D) (S : List O) : R D := match xs with
  | [.int i] => .ok (.int (if i < 0 then -i else i)) S
  | _ => .bad
def intD (xs : List D) (S : List O) : R D := match xs with
  | [.int i] => .ok (.int i) S
  | [.bl b] => .ok (.int (if b then 1 else 0)) S
  | [.str cs] => (match PySem.intText? (mkS cs) with
    | some n => if cs.length ≤ 640 then .ok (.int n) S else .bad
    | none => .bad)
  | [.str cs, .int 2] => if cs ≠ [] ∧ cs.length ≤ 640 ∧ binB cs = true then .ok (.int (bitsV cs : Nat)) S else .bad
  | _ => .bad
def tupleD (xs : List D) (S : List O) : R D := match xs with
  | [.tup ds] => .ok (.tup ds) S
  | [.ft ds] => .ok (.ft ds) S
  | [.str cs] => if cs.length ≤ sizeLine then .ok (.tup (cs.map fun c => .str [c])) S else .bad
  | [x] => (match rdL S x with
    | some ds => .ok (.tup ds) S
    | none => .bad)
  | _ => .bad
def listD (xs : List D) (S : List O) : R D := match xs with
  | [.str cs] => if cs.length ≤ sizeLine then .ok (.lst (cs.map fun c => .str [c])) S else .bad
  | [x] => (match seqOf S x with
    | some ds => .ok (.lst ds) S
    | none => .bad)
  | _ => .bad
def allD (xs : List D) (S : List O) : R D := match xs with
  | [x] => (match rdL S x with
    | some ds => (match blsOf ds with
      | some bs => .ok (.bl (bs.all id)) S
      | none => .bad)
    | none => .bad)
  | _ => .bad
def anyD (xs : List D) (S : List O) : R D := match xs with
  | [x] => (match rdL S x with
    | some ds => (match blsOf ds with
      | some bs => .ok (.bl (bs.any id)) S
      | none => .bad)
    | none => .bad)
  | _ => .bad
def sumD (xs : List D) (S : List O) : R D := match xs with
  | [x] => (match rdL S x with
    | some ds => (match intsOf ds with
      | some ns => .ok (.int ns.sum) S
      | none => .bad)
    | none => .bad)
  | _ => .bad
def maxD (xs : List D) (S : List O) : R D := match xs with
  | [.int i, .int j] => .ok (.int (if j > i then j else i)) S
  | [x] => (match rdL S x with
    | some ds => (match intsOf ds with
      | some (n :: ns) => .ok (.int (maxL n ns)) S
      | _ => .bad)
    | none => .bad)
  | _ => .bad
def minD (xs : List D) (S : List O) : R D := match xs with
  | [.int i, .int j] => .ok (.int (if j < i then j else i)) S
  | [x] => (match rdL S x with
    | some ds => (match intsOf ds with
      | some (n :: ns) => .ok (.int (minL n ns)) S
      | _ => .bad)
    | none => .bad)
  | _ => .bad
def strD (xs : List D) (S : List O) : R D := match xs with
  | [.int i] => if i.natAbs.log2 < 1920 then .ok (.str (toString i : Str).cps.toList) S else .bad
  | _ => .bad

section
variable {X : Cx} {F : Fx} {μ : Mu} {H : Hp}
theorem repL1 {d : D} {xs : List V} (h : RepL F μ H [d] xs) : ∃ x, xs = [x] ∧ Rep F μ H d x := by
  obtain ⟨v, r, rfl, h1, h2⟩ := h
  cases (show _ = _ from h2)
  exact ⟨v, rfl, h1⟩
theorem repL2 {d e : D} {xs : List V} (h : RepL F μ H [d, e] xs) : ∃ x y, xs = [x, y] ∧ Rep F μ H d x ∧ Rep F μ H e y := by
  obtain ⟨v, r, rfl, h1, h2⟩ := h
  obtain ⟨y, rfl, h3⟩ := repL1 h2
  exact ⟨v, y, rfl, h1, h3⟩
theorem cl_len (hk : F.K = X.K) : CallR X (.builtin "len") (rPn F lenD) :=
  CallR.imp (call_len.or (call_lenD.or call_len_dT)) fun xs H Q h => by
    obtain ⟨μ, S, ds, rel, hd, p⟩ := h
    unfold lenD at p
    split at p
    · obtain ⟨x, rfl, hx⟩ := repL1 hd
      cases (show _ = _ from hx)
      split at p
      · rename_i hl
        exact .inl ⟨_, _, rfl, ⟨by rw [mkS_len]; exact hl, rfl⟩, by rw [mkS_len]; exact p.here rel rfl⟩
      · exact p.elim
    · obtain ⟨x, rfl, hx⟩ := repL1 hd
      split at p
      · rename_i es e
        obtain ⟨a, vs, rfl, z, r⟩ := seqOf_rep rel hx e
        refine .inl ⟨_, vs.length, rfl, ?_, by rw [r.length]; exact p.here rel rfl⟩
        rcases z with z | z
        · exact .inl ⟨vs, hk ▸ z, rfl⟩
        · exact .inr ⟨vs, hk ▸ z, rfl⟩
      · split at p
        · rename_i ks vs e
          obtain ⟨a, us, rfl, z, l, r⟩ := dkOf_rep rel hx e
          refine .inr (.inl ⟨a, _, rfl, z, ?_⟩)
          rw [List.length_zip, r.length, l, Nat.min_self, ← l]; exact p.here rel rfl
        · split at p
          · rename_i ks vs e
            obtain ⟨a, us, rfl, z, l, r⟩ := dtOf_rep rel hx e
            refine .inr (.inr ⟨a, _, rfl, z, ?_⟩)
            rw [List.length_zip, r.length, l, Nat.min_self, ← l]; exact p.here rel rfl
          · exact p.elim
    · exact p.elim
theorem cl_abs : CallR X (.builtin "abs") (rPn F absD) :=
  CallR.imp call_abs fun xs H Q h => by
    obtain ⟨μ, S, ds, rel, hd, p⟩ := h
    unfold absD at p
    split at p
    · obtain ⟨x, rfl, hx⟩ := repL1 hd
      cases rep_int hx
      exact ⟨_, rfl, p.here rel rfl⟩
    · exact p.elim
theorem cl_int : CallR X (.type "int") (rPn F intD) :=
  CallR.imp ((call_int1.or call_int_str).or call_int_b) fun xs H Q h => by
    obtain ⟨μ, S, ds, rel, hd, p⟩ := h
    unfold intD at p
    split at p
    · obtain ⟨x, rfl, hx⟩ := repL1 hd
      cases rep_int hx
      exact .inl (.inl (.inl ⟨_, rfl, p.here rel rfl⟩))
    · obtain ⟨x, rfl, hx⟩ := repL1 hd
      cases (show _ = _ from hx)
      exact .inl (.inl (.inr ⟨_, rfl, p.here rel rfl⟩))
    · obtain ⟨x, rfl, hx⟩ := repL1 hd
      cases (show _ = _ from hx)
      split at p
      · rename_i n e
        split at p
        · rename_i hl
          exact .inl (.inr ⟨_, n, rfl, e, by rw [mkS_len]; exact hl, p.here rel rfl⟩)
        · exact p.elim
      · exact p.elim
    · obtain ⟨x, y, rfl, hx, hy⟩ := repL2 hd
      cases (show _ = _ from hx)
      cases (show _ = _ from hy)
      split at p
      · rename_i hc
        exact .inr ⟨_, rfl, hc.1, hc.2.1, hc.2.2, p.here rel rfl⟩
      · exact p.elim
    · exact p.elim
/-! ### list(text), tuple(text) -/
theorem vals_signs : ∀ {cs : List Nat} {its : List Value}, its.length = cs.length → (∀ (j : Nat) (v : Value), its[j]? = some v → ∃ (c : Nat) (u : Tok), cs[j]? = some c ∧ v = Value.str ⟨#[c]⟩ u) → Vals (cs.map fun c => V.str (mkS [c])) its
  | [], [], _, _ => .nil
  | [], _ :: _, h, _ => by cases h
  | c :: cs, [], h, _ => by cases h
  | c :: cs, v :: its, h, q => by
    obtain ⟨d, u, e1, e2⟩ := q 0 v rfl
    simp at e1
    subst e1 e2
    exact .cons ⟨u, rfl⟩ (vals_signs (by simpa using h) fun j v e => by
      obtain ⟨d, u, e1, e2⟩ := q (j + 1) v (by simpa using e)
      exact ⟨d, u, by simpa using e1, e2⟩)
theorem items_vals {cs : List Nat} {acc : Array Value} (h : ItemsOf (SignAt (mkS cs)) acc (mkS cs).cps.size) : Vals (cs.map fun c => V.str (mkS [c])) acc.toList ∧ acc.size = cs.length := by
  obtain ⟨h1, h2⟩ := h
  have hz : acc.size = cs.length := by rw [h1]; simp
  refine ⟨vals_signs (by simpa using hz) fun j v e => ?_, hz⟩
  obtain ⟨c, u, e1, e2⟩ := h2 j v (by simpa using e)
  exact ⟨c, u, by simpa using e1, e2⟩
theorem call_list_txt (hc : X.calm = true) : CallR X (.type "list") (fun xs H Q => ∃ cs : List Nat, xs = [.str (mkS cs)] ∧ cs.length ≤ sizeLine ∧ ∀ l, H l = none → Q (.ref l) (upd H l (.lst (cs.map fun c => V.str (mkS [c]))))) := by
  intro pins s σ H xs us Q I r h
  obtain ⟨cs, rfl, hz, q⟩ := h
  obtain ⟨u, rfl, rx⟩ := vals1 r
  obtain ⟨t, rfl⟩ := rx
  refine call_list_str (I.ok.hd hc) (mkS cs) t (hn := by simpa using hz) fun h' tk acc c' kp e hacc => ?_
  obtain ⟨r', hz'⟩ := items_vals hacc
  exact ⟨.ref s.heap.objs.size, _, I.laid (t' := tk) kp (Nat.le_refl _) (show ObjOk X.prog X.w _ h' _ (.lst _) from ⟨by simpa using hz, acc.toList, c', r', by simpa using e⟩), rfl, q _ (I.hok.fresh (Nat.le_refl _))⟩
theorem call_tuple_txt (hc : X.calm = true) : CallR X (.type "tuple") (fun xs H Q => ∃ cs : List Nat, xs = [.str (mkS cs)] ∧ cs.length ≤ sizeLine ∧ ∀ l, H l = none → Q (.ref l) (upd H l (.tup (cs.map fun c => V.str (mkS [c]))))) := by
  intro pins s σ H xs us Q I r h
  obtain ⟨cs, rfl, hz, q⟩ := h
  obtain ⟨u, rfl, rx⟩ := vals1 r
  obtain ⟨t, rfl⟩ := rx
  refine call_tuple_str (I.ok.hd hc) (mkS cs) t (hsz := by simpa using hz) fun h' tk acc kp hacc => ?_
  obtain ⟨r', hz'⟩ := items_vals hacc
  have I1 : Inv X pins σ H { s with heap := h', toks := tk } := I.kept (t' := tk) kp
  have I2 : Inv X pins σ (upd H h'.objs.size (.tup (cs.map fun c => V.str (mkS [c])))) { s with heap := h'.push { cls := .type "tuple", data := .seq acc }, toks := tk } :=
    I1.laid (t' := tk) (fun b o e => Heap.get?_push_of_some _ e) (Nat.le_refl _) (show ObjOk X.prog X.w _ _ _ (.tup _) from ⟨by simpa using hz, acc.toList, r', IsTup.new _ _⟩)
  exact ⟨.ref h'.objs.size, _, I2, rfl, q _ (I1.hok.fresh (Nat.le_refl _))⟩
theorem RepL.signs {F : Fx} {μ : Mu} {H : Hp} : ∀ cs : List Nat, RepL F μ H (cs.map fun c => D.str [c]) (cs.map fun c => V.str (mkS [c]))
  | [] => rfl
  | _ :: cs => ⟨_, _, rfl, rfl, RepL.signs cs⟩
theorem cl_tuple (hk : F.K = X.K) (hc : X.calm = true) : CallR X (.type "tuple") (rPn F tupleD) :=
  CallR.imp (call_tuple_of.or (call_tuple_txt hc)) fun xs H Q h => by
    obtain ⟨μ, S, ds, rel, hd, p⟩ := h
    unfold tupleD at p
    split at p
    · obtain ⟨x, rfl, hx⟩ := repL1 hd
      obtain ⟨a, vs, rfl, z, r⟩ := Rep.seqT hx
      exact .inl ⟨a, vs, rfl, .inr ⟨hk ▸ z, p.here rel hx⟩⟩
    · obtain ⟨x, rfl, hx⟩ := repL1 hd
      obtain ⟨a, vs, rfl, z, r⟩ := Rep.seqF hx
      exact .inl ⟨a, vs, rfl, .inr ⟨hk ▸ z, p.here rel hx⟩⟩
    · rename_i cs
      obtain ⟨x, rfl, hx⟩ := repL1 hd
      cases (show _ = _ from hx)
      split at p
      · rename_i hz
        exact .inr ⟨cs, rfl, hz, p.tup rel (RepL.signs cs)⟩
      · exact p.elim
    · obtain ⟨x, rfl, hx⟩ := repL1 hd
      split at p
      · rename_i es e
        obtain ⟨a, vs, rfl, z, r⟩ := rdL_rep rel hx e
        exact .inl ⟨a, vs, rfl, .inl ⟨hk ▸ z, p.tup rel r⟩⟩
      · exact p.elim
    · exact p.elim
theorem cl_list (hk : F.K = X.K) (hc : X.calm = true) : CallR X (.type "list") (rPn F listD) :=
  CallR.imp (call_list_of.or (call_list_txt hc)) fun xs H Q h => by
    obtain ⟨μ, S, ds, rel, hd, p⟩ := h
    unfold listD at p
    split at p
    · rename_i cs
      obtain ⟨x, rfl, hx⟩ := repL1 hd
      cases (show _ = _ from hx)
      split at p
      · rename_i hz
        exact .inr ⟨cs, rfl, hz, p.lst rel (RepL.signs cs)⟩
      · exact p.elim
    · obtain ⟨x, rfl, hx⟩ := repL1 hd
      split at p
      · rename_i es e
        obtain ⟨a, vs, rfl, z, r⟩ := seqOf_rep rel hx e
        exact .inl ⟨a, vs, rfl, hk ▸ z, p.lst rel r⟩
      · exact p.elim
    · exact p.elim
theorem cl_all (hk : F.K = X.K) (hc : X.calm = true) : CallR X (.builtin "all") (rPn F allD) :=
  CallR.imp (cr_all hc) fun xs H Q h => by
    obtain ⟨μ, S, ds, rel, hd, p⟩ := h
    unfold allD at p
    split at p
    · obtain ⟨x, rfl, hx⟩ := repL1 hd
      split at p
      · rename_i es e
        obtain ⟨a, vs, rfl, z, r⟩ := rdL_rep rel hx e
        split at p
        · rename_i bs eb
          rw [blsOf_eq eb] at r
          rw [r.bl] at z
          exact ⟨a, bs, rfl, hk ▸ z, p.here rel rfl⟩
        · exact p.elim
      · exact p.elim
    · exact p.elim
theorem cl_any (hk : F.K = X.K) (hc : X.calm = true) : CallR X (.builtin "any") (rPn F anyD) :=
  CallR.imp (cr_any hc) fun xs H Q h => by
    obtain ⟨μ, S, ds, rel, hd, p⟩ := h
    unfold anyD at p
    split at p
    · obtain ⟨x, rfl, hx⟩ := repL1 hd
      split at p
      · rename_i es e
        obtain ⟨a, vs, rfl, z, r⟩ := rdL_rep rel hx e
        split at p
        · rename_i bs eb
          rw [blsOf_eq eb] at r
          rw [r.bl] at z
          exact ⟨a, bs, rfl, hk ▸ z, p.here rel rfl⟩
        · exact p.elim
      · exact p.elim
    · exact p.elim
theorem cl_sum (hk : F.K = X.K) (hc : X.calm = true) : CallR X (.builtin "sum") (rPn F sumD) :=
  CallR.imp (cr_sum hc) fun xs H Q h => by
    obtain ⟨μ, S, ds, rel, hd, p⟩ := h
    unfold sumD at p
    split at p
    · obtain ⟨x, rfl, hx⟩ := repL1 hd
      split at p
      · rename_i es e
        obtain ⟨a, vs, rfl, z, r⟩ := rdL_rep rel hx e
        split at p
        · rename_i bs eb
          rw [intsOf_eq eb] at r
          rw [r.int] at z
          exact ⟨a, bs, rfl, hk ▸ z, p.here rel rfl⟩
        · exact p.elim
      · exact p.elim
    · exact p.elim
theorem cl_max (hk : F.K = X.K) (hc : X.calm = true) : CallR X (.builtin "max") (rPn F maxD) :=
  CallR.imp ((call_max2 hc).or (cr_max hc)) fun xs H Q h => by
    obtain ⟨μ, S, ds, rel, hd, p⟩ := h
    unfold maxD at p
    split at p
    · obtain ⟨x, y, rfl, hx, hy⟩ := repL2 hd
      cases rep_int hx; cases rep_int hy
      exact .inl ⟨_, _, rfl, p.here rel rfl⟩
    · obtain ⟨x, rfl, hx⟩ := repL1 hd
      split at p
      · rename_i es e
        obtain ⟨a, vs, rfl, z, r⟩ := rdL_rep rel hx e
        split at p
        · rename_i n ns eb
          rw [intsOf_eq eb] at r
          rw [r.int] at z
          refine .inr ⟨a, _, rfl, hk ▸ z, by simp, fun m hm hle => ?_⟩
          have e1 : m = maxL n ns := by
            have h1 := hle _ (maxL_mem n ns)
            have h2 : m ≤ maxL n ns := by
              obtain ⟨q1, q2⟩ := maxL_le n ns
              rcases List.mem_cons.mp hm with rfl | hm
              · exact q1
              · exact q2 m hm
            omega
          rw [e1]; exact p.here rel rfl
        · exact p.elim
      · exact p.elim
    · exact p.elim
theorem cl_min (hk : F.K = X.K) (hc : X.calm = true) : CallR X (.builtin "min") (rPn F minD) :=
  CallR.imp ((call_min2 hc).or (cr_min hc)) fun xs H Q h => by
    obtain ⟨μ, S, ds, rel, hd, p⟩ := h
    unfold minD at p
    split at p
    · obtain ⟨x, y, rfl, hx, hy⟩ := repL2 hd
      cases rep_int hx; cases rep_int hy
      exact .inl ⟨_, _, rfl, p.here rel rfl⟩
    · obtain ⟨x, rfl, hx⟩ := repL1 hd
      split at p
      · rename_i es e
        obtain ⟨a, vs, rfl, z, r⟩ := rdL_rep rel hx e
        split at p
        · rename_i n ns eb
          rw [intsOf_eq eb] at r
          rw [r.int] at z
          refine .inr ⟨a, _, rfl, hk ▸ z, by simp, fun m hm hle => ?_⟩
          have e1 : m = minL n ns := by
            have h1 := hle _ (minL_mem n ns)
            have h2 : minL n ns ≤ m := by
              obtain ⟨q1, q2⟩ := minL_le n ns
              rcases List.mem_cons.mp hm with rfl | hm
              · exact q1
              · exact q2 m hm
            omega
          rw [e1]; exact p.here rel rfl
        · exact p.elim
      · exact p.elim
    · exact p.elim
theorem mkS_toList (z : Str) : mkS z.cps.toList = z := by cases z; rfl
theorem cl_str : CallR X (.type "str") (rPn F strD) :=
  CallR.imp call_str_int fun xs H Q h => by
    obtain ⟨μ, S, ds, rel, hd, p⟩ := h
    unfold strD at p
    split at p
    · split at p
      · rename_i hl
        obtain ⟨x, rfl, hx⟩ := repL1 hd
        cases rep_int hx
        exact ⟨_, rfl, hl, by have := p.here rel (v := .str _) rfl; rw [mkS_toList] at this; exact this⟩
      · exact p.elim
    · exact p.elim
end
end Ev
end
section
set_option Elab.async false
set_option linter.all false
set_option maxRecDepth 100000
set_option maxHeartbeats 4000000
set_option autoImplicit false
/-! Ev, part B5: built-in methods. -/
namespace Ev
open PySem PySem.Spec PyProof.Rows L2

inductive MT where
  | append | pop | extend | insert | lindex | lcount | tindex | join | scount | get
  deriving DecidableEq
def MT.ty : MT → String
  | .append | .pop | .extend | .insert | .lindex | .lcount => "list"
  | .tindex => "tuple"
  | .join | .scount => "str"
  | .get => "dict"
def MT.nm : MT → Str
  | .append => "append"
  | .pop => "pop"
  | .extend => "extend"
  | .insert => "insert"
  | .lindex => "index"
  | .tindex => "index"
  | .lcount => "count"
  | .scount => "count"
  | .join => "join"
  | .get => "get"
def MT.id : MT → String
  | .append => "list.append"
  | .pop => "list.pop"
  | .extend => "list.extend"
  | .insert => "list.insert"
  | .lindex => "list.index"
  | .tindex => "tuple.index"
  | .lcount => "list.count"
  | .scount => "str.count"
  | .join => "str.join"
  | .get => "dict.get"
/-- the receiver is of that type -/
def isStrD : D → Bool
  | .str _ => true
  | _ => false
def MT.at (m : MT) (S : List O) (d : D) : Bool := match m with
  | .append | .pop | .extend | .insert | .lindex | .lcount => (rdL S d).isSome
  | .tindex => (match d with
    | .ft _ => true
    | _ => false)
  | .join | .scount => isStrD d
  | .get => (dkOf S d).isSome || (dtOf S d).isSome
def flatD : D → Bool
  | .non | .bl _ | .int _ | .str _ => true
  | _ => false
def eqF : D → D → Bool
  | .non, .non => true
  | .bl a, .bl b => a == b
  | .bl a, .int b => (if a then 1 else 0) == b
  | .int a, .bl b => a == (if b then 1 else 0)
  | .int a, .int b => a == b
  | .str a, .str b => a == b
  | _, _ => false
def joinL (sep : List Nat) : List (List Nat) → List Nat
  | [] => []
  | [x] => x
  | x :: y :: r => x ++ sep ++ joinL sep (y :: r)
/-- the place of the first one -/
def findI (p : D → Bool) : List D → Option Nat
  | [] => none
  | d :: ds => if p d then some 0 else (findI p ds).map (· + 1)
def methD (m : MT) (d : D) (xs : List D) (S : List O) : R D := match m with
  | .append => (match d, xs with
    | .ref n, [w] => (match S[n]? with
      | some (.lst ds) => if ds.length < sizeLine then .ok .non (S.set n (.lst (ds ++ [w]))) else .bad
      | _ => .bad)
    | _, _ => .bad)
  | .pop => (match d, xs with
    | .ref n, [] => (match S[n]? with
      | some (.lst ds) => (match ds[ds.length - 1]? with
        | some w => .ok w (S.set n (.lst ds.dropLast))
        | none => .bad)
      | _ => .bad)
    | .ref n, [.int i] => (match S[n]? with
      | some (.lst ds) => (match ixN ds.length i with
        | some k => (match ds[k]? with
          | some w => if -(2 ^ 63) ≤ i ∧ i < 2 ^ 63 then .ok w (S.set n (.lst (ds.eraseIdx k))) else .bad
          | none => .bad)
        | none => .bad)
      | _ => .bad)
    | _, _ => .bad)
  | .extend => (match d, xs with
    | .ref n, [w] => (match S[n]?, listOf S w with
      | some (.lst ds), some es => if ds.length + es.length ≤ sizeLine then .ok .non (S.set n (.lst (ds ++ es))) else .bad
      | _, _ => .bad)
    | _, _ => .bad)
  | .insert => (match d, xs with
    | .ref n, [.int i, w] => (match S[n]? with
      | some (.lst ds) => if ds.length < sizeLine ∧ 0 ≤ i ∧ i < 2 ^ 63 then .ok .non (S.set n (.lst (ds.take i.toNat ++ [w] ++ ds.drop i.toNat))) else .bad
      | _ => .bad)
    | _, _ => .bad)
  | .lindex => (match rdL S d, xs with
    | some ds, [w] => if flatD w && ds.all flatD then (match findI (fun z => eqF z w) ds with
      | some j => .ok (.int j) S
      | none => .bad) else .bad
    | _, _ => .bad)
  | .lcount => (match rdL S d, xs with
    | some ds, [w] => if flatD w && ds.all flatD then .ok (.int (ds.countP fun z => eqF z w : Nat)) S else .bad
    | _, _ => .bad)
  | .tindex => (match d, xs with
    | .ft ds, [.str z] => (match strsOf ds with
      | some ys => (match findI (fun w => eqF w (.str z)) ds with
        | some j => .ok (.int j) S
        | none => .bad)
      | none => .bad)
    | _, _ => .bad)
  | .join => (match d, xs with
    | .str a, [x] => (match seqOf S x with
      | some ds => (match strsOf ds with
        | some ys => if (ys.map (·.length)).sum + ys.length * a.length ≤ 16777216 then .ok (.str (joinL a ys)) S else .bad
        | none => .bad)
      | none => .bad)
    | _, _ => .bad)
  | .scount => (match d, xs with
    | .str a, [.str b] => .ok (.int (Txt.count (mkS a) (mkS b))) S
    | _, _ => .bad)
  | .get => (match xs with
    | [k] => (match dGet S d k with
      | some o => .ok (o.getD .non) S
      | none => .bad)
    | [k, z] => (match dGet S d k with
      | some o => .ok (o.getD z) S
      | none => .bad)
    | _ => .bad)

section
variable {F : Fx} {μ : Mu} {H : Hp}
theorem eqF_V {d e : D} {x y : V} (hd : Rep F μ H d x) (he : Rep F μ H e y) (fd : flatD d = true) (fe : flatD e = true) : eqV x y = eqF d e := by
  cases d <;> first
    | (cases fd; done)
    | (cases e <;> first
      | (cases fe; done)
      | (cases (show _ = _ from hd); cases (show _ = _ from he); first | rfl | (show (mkS _ == mkS _) = (_ == _); rw [Bool.eq_iff_iff]; simp [mkS])))
theorem flat_V {d : D} {x : V} (hd : Rep F μ H d x) (fd : flatD d = true) : flatV x = true := by
  cases d <;> first | (cases fd; done) | (cases (show _ = _ from hd); rfl)
theorem flats_V : ∀ {ds : List D} {vs : List V}, RepL F μ H ds vs → ds.all flatD = true → vs.all flatV = true
  | [], _, h, _ => by cases (show _ = _ from h); rfl
  | d :: ds, _, h, f => by
    obtain ⟨v, r, rfl, h1, h2⟩ := h
    rw [List.all_cons, Bool.and_eq_true] at f ⊢
    exact ⟨flat_V h1 f.1, flats_V h2 f.2⟩
theorem findI_some {p : D → Bool} : ∀ {ds : List D} {j : Nat}, findI p ds = some j → (∃ d, ds[j]? = some d ∧ p d = true) ∧ ∀ m d, m < j → ds[m]? = some d → p d = false
  | [], _, h => by cases h
  | d :: ds, j, h => by
    unfold findI at h
    split at h
    · rename_i hp
      cases h
      exact ⟨⟨d, rfl, hp⟩, fun m _ hm => absurd hm (Nat.not_lt_zero m)⟩
    · rename_i hp
      obtain ⟨k, hk, rfl⟩ := Option.map_eq_some_iff.mp h
      obtain ⟨⟨w, h1, h2⟩, h3⟩ := findI_some hk
      refine ⟨⟨w, by simpa using h1, h2⟩, fun m e hm he => ?_⟩
      cases m with
      | zero => simp at he; subst he; simpa using hp
      | succ m => exact h3 m e (by omega) (by simpa using he)
theorem joinL_eq (sep : List Nat) : ∀ ys : List (List Nat), Txt.join (mkS sep) (ys.map mkS) = mkS (joinL sep ys) := by
  intro ys
  rw [show Txt.join (mkS sep) (ys.map mkS) = Str.join (mkS sep) (ys.map mkS) from PySem.StrLaws.glued_eq_join _ _]
  induction ys with
  | nil => rfl
  | cons y r ih =>
    cases r with
    | nil => rfl
    | cons z r =>
      show mkS y ++ mkS sep ++ Str.join (mkS sep) ((z :: r).map mkS) = _
      rw [ih, mkS_app, mkS_app]; rfl
end
section
variable {X : Cx} {F : Fx}
theorem at_ty (hk : F.K = X.K) (m : MT) {μ : Mu} {H : Hp} {S : List O} {d : D} {x : V} (rel : Rel F μ S H) (hd : Rep F μ H d x) (h : m.at S d = true) : m ≠ .tindex → tyV X.K m.ty x H := by
  intro hm
  have L : (rdL S d).isSome = true → tyV X.K "list" x H := fun h => by
    obtain ⟨ds, e⟩ := Option.isSome_iff_exists.mp h
    obtain ⟨a, vs, rfl, q, r⟩ := rdL_rep rel hd e
    exact .inl ⟨rfl, vs, hk ▸ q⟩
  have T : isStrD d = true → tyV X.K "str" x H := fun h => by
    cases d <;> first | (cases h; done) | (cases (show _ = _ from hd); rfl)
  cases m with
  | append => exact L h
  | pop => exact L h
  | extend => exact L h
  | insert => exact L h
  | lindex => exact L h
  | lcount => exact L h
  | tindex => exact absurd rfl hm
  | join => exact T h
  | scount => exact T h
  | get =>
    have h := Bool.or_eq_true_iff.mp (show ((dkOf S d).isSome || (dtOf S d).isSome) = true from h)
    rcases h with h | h
    · obtain ⟨⟨ks, vs⟩, e⟩ := Option.isSome_iff_exists.mp h
      obtain ⟨a, us, rfl, q, _⟩ := dkOf_rep rel hd e
      exact .inr (.inr (.inl ⟨rfl, .inl ⟨_, q⟩⟩))
    · obtain ⟨⟨ks, vs⟩, e⟩ := Option.isSome_iff_exists.mp h
      obtain ⟨a, us, rfl, q, _⟩ := dtOf_rep rel hd e
      exact .inr (.inr (.inl ⟨rfl, .inr ⟨_, q⟩⟩))
theorem mt_lcountF (hk : F.K = X.K) : MtR X "list.count" (rPm F (methD .lcount)) := by
  intro pins s σ H x xs v us Q I rx rxs h
  obtain ⟨μ, S, d, ds, rel, hd, hds, p⟩ := h
  simp only [methD] at p
  split at p
  · rename_i es w e
    obtain ⟨a, vs, rfl, q, r⟩ := rdL_rep rel hd e
    obtain ⟨y, rfl, hw⟩ := repL1 hds
    cases rx
    obtain ⟨u, rfl, ru⟩ := rxs.one
    split at p
    · rename_i hf
      have hf := Bool.and_eq_true_iff.mp hf
      obtain ⟨its, rv, ⟨⟨cls, dd, data, sl⟩, n, ho, hc, hdn, hdt⟩, hlen⟩ := I.list (hk ▸ q)
      simp only at hc hdt
      subst hc hdt
      have hfv := flats_V r hf.2
      refine call_meets PySem.F.slot_list_count ⟨_, ho, rfl⟩ PySem.F.entry_list_count (PySem.F.args_list_count_2 _ _)
        (SeqAt.list_countAt a its.toArray n dd sl u (eqU y)) ⟨ho, fun z hz => mem_eqAt ru (flat_V hw hf.1) rv hfv z (by simpa using hz), ?_⟩
      have ec : ∀ {vs : List V} {its : List Value} {es : List D}, Vals vs its → RepL F μ H es vs → es.all flatD = true → vs.all flatV = true → its.countP (eqU y) = es.countP fun z => eqF z w := by
        intro vs its es rv
        induction rv generalizing es with
        | nil =>
          intro r _ _
          cases es with
          | nil => rfl
          | cons e es => obtain ⟨_, _, z, _⟩ := r; cases z
        | cons r1 rr ih =>
          intro r f1 f2
          cases es with
          | nil => cases (show _ = _ from r)
          | cons e es =>
            obtain ⟨_, _, z, h1, h2⟩ := r
            cases z
            rw [List.all_cons, Bool.and_eq_true] at f1 f2
            rw [List.countP_cons, List.countP_cons, ih h2 f1.2 f2.2, eqU_of r1 f2.1, eqF_V h1 hw f1.1 hf.1]
      refine ⟨.int (es.countP fun z => eqF z w : Nat), H, I.tok _, ⟨s.toks, ?_⟩, p.here rel rfl⟩
      show Value.int ((its.toArray.toList.countP (eqU y) : Nat) : Int) s.toks = _
      rw [List.toList_toArray, ec rv r hf.2 hfv]
    · exact p.elim
  · exact p.elim
theorem mt_S (hk : F.K = X.K) (hu : X.A.units + 64 < cLine) : ∀ m : MT, MtR X m.id (rPm F (methD m))
  | .append => MtR.imp mt_append fun x xs H Q h => by
    obtain ⟨μ, S, d, ds, rel, hd, hds, p⟩ := h
    simp only [methD] at p
    split at p
    · obtain ⟨a, rfl, hm⟩ := hd
      obtain ⟨y, rfl, hy⟩ := repL1 hds
      split at p
      · rename_i es hn
        split at p
        · rename_i hl
          obtain ⟨vs, q, r⟩ := rel.obj _ _ a hn hm
          exact ⟨a, vs, y, rfl, rfl, q, by rw [r.length]; exact hl, p.wr rel hm ⟨_, upd_same, (r.snoc hy).mono (Ext.wr (List.mem_of_getElem? hm))⟩ rfl⟩
        · exact p.elim
      · exact p.elim
    · exact p.elim
  | .pop => MtR.imp (MtR.or (X := X) mt_pop mt_popAt) fun x xs H Q h => by
    obtain ⟨μ, S, d, ds, rel, hd, hds, p⟩ := h
    simp only [methD] at p
    split at p
    · obtain ⟨a, rfl, hm⟩ := hd
      cases (show _ = _ from hds)
      split at p
      · rename_i es hn
        split at p
        · rename_i w hw
          obtain ⟨vs, q, r⟩ := rel.obj _ _ a hn hm
          obtain ⟨y, hy, ry⟩ := r.get hw
          have rd : RepL F μ H es.dropLast vs.dropLast := by
            rw [List.dropLast_eq_take, List.dropLast_eq_take, r.length]; exact r.take _
          have ex := Ext.wr (H := H) (u := .lst vs.dropLast) (List.mem_of_getElem? hm)
          exact .inl ⟨a, vs, y, rfl, rfl, q, by rw [r.length]; exact hy, p.wr rel hm ⟨_, upd_same, rd.mono ex⟩ (ry.mono ex)⟩
        · exact p.elim
      · exact p.elim
    · obtain ⟨a, rfl, hm⟩ := hd
      obtain ⟨y, rfl, hy⟩ := repL1 hds
      cases rep_int hy
      split at p
      · rename_i es hn
        split at p
        · rename_i k hk'
          split at p
          · rename_i w hw
            obtain ⟨vs, q, r⟩ := rel.obj _ _ a hn hm
            obtain ⟨y, hy, ry⟩ := r.get hw
            obtain ⟨s1, s2, s3, s4⟩ := ixN_seq hk'
            have he : ∀ {es : List D} {vs : List V} (k : Nat), RepL F μ H es vs → RepL F μ H (es.eraseIdx k) (vs.eraseIdx k) := by
              intro es
              induction es with
              | nil => intro vs k h; cases (show _ = _ from h); simp [RepL]
              | cons e es ih =>
                intro vs k h
                obtain ⟨v, r, rfl, h1, h2⟩ := h
                cases k with
                | zero => exact h2
                | succ k => exact ⟨v, _, rfl, h1, ih k h2⟩
            have ex := Ext.wr (H := H) (u := .lst (vs.eraseIdx k)) (List.mem_of_getElem? hm)
            split at p
            · rename_i hb
              exact .inr ⟨a, vs, _, k, y, rfl, rfl, q, hb.1, hb.2, by rw [r.length]; exact s1, hy, p.wr rel hm ⟨_, upd_same, (he k r).mono ex⟩ (ry.mono ex)⟩
            · exact p.elim
          · exact p.elim
        · exact p.elim
      · exact p.elim
    · exact p.elim
  | .extend => MtR.imp mt_extend fun x xs H Q h => by
    obtain ⟨μ, S, d, ds, rel, hd, hds, p⟩ := h
    simp only [methD] at p
    split at p
    · obtain ⟨a, rfl, hm⟩ := hd
      obtain ⟨y, rfl, hy⟩ := repL1 hds
      split at p
      · rename_i es fs hn hf
        split at p
        · rename_i hl
          obtain ⟨vs, q, r⟩ := rel.obj _ _ a hn hm
          obtain ⟨b, us, rfl, q2, r2⟩ := listOf_rep rel hy hf
          exact ⟨a, b, vs, us, rfl, rfl, q, q2, by rw [r.length, r2.length]; exact hl, p.wr rel hm ⟨_, upd_same, (r.append r2).mono (Ext.wr (List.mem_of_getElem? hm))⟩ rfl⟩
        · exact p.elim
      · exact p.elim
    · exact p.elim
  | .insert => MtR.imp mt_insert fun x xs H Q h => by
    obtain ⟨μ, S, d, ds, rel, hd, hds, p⟩ := h
    simp only [methD] at p
    split at p
    · obtain ⟨a, rfl, hm⟩ := hd
      obtain ⟨z, y, rfl, hz, hy⟩ := repL2 hds
      cases rep_int hz
      split at p
      · rename_i es hn
        split at p
        · rename_i hl
          obtain ⟨vs, q, r⟩ := rel.obj _ _ a hn hm
          exact ⟨a, vs, _, y, rfl, rfl, q, by rw [r.length]; exact hl.1, hl.2.1, hl.2.2, p.wr rel hm ⟨_, upd_same, (((r.take _).snoc hy).append (r.drop _)).mono (Ext.wr (List.mem_of_getElem? hm))⟩ rfl⟩
        · exact p.elim
      · exact p.elim
    · exact p.elim
  | .lindex => MtR.imp mt_index fun x xs H Q h => by
    obtain ⟨μ, S, d, ds, rel, hd, hds, p⟩ := h
    simp only [methD] at p
    split at p
    · rename_i es w e
      obtain ⟨a, vs, rfl, q, r⟩ := rdL_rep rel hd e
      obtain ⟨y, rfl, hw⟩ := repL1 hds
      split at p
      · rename_i hf
        have hf := Bool.and_eq_true_iff.mp hf
        split at p
        · rename_i j hj
          obtain ⟨⟨z, z1, z2⟩, z3⟩ := findI_some hj
          obtain ⟨v, v1, v2⟩ := r.get z1
          have fz : flatD z = true := List.all_eq_true.mp hf.2 z (List.mem_of_getElem? z1)
          refine ⟨a, vs, y, j, v, rfl, rfl, hk ▸ q, flat_V hw hf.1, flats_V r hf.2, v1, by rw [eqF_V v2 hw fz hf.1]; exact z2, fun m z' hm hz' => ?_, p.here rel rfl⟩
          obtain ⟨e', e1, e2⟩ := r.get' hz'
          have fe : flatD e' = true := List.all_eq_true.mp hf.2 e' (List.mem_of_getElem? e1)
          rw [eqF_V e2 hw fe hf.1]; exact z3 m e' hm e1
        · exact p.elim
      · exact p.elim
    · exact p.elim
  | .lcount => mt_lcountF hk
  | .tindex => MtR.imp mt_tup_index fun x xs H Q h => by
    obtain ⟨μ, S, d, ds, rel, hd, hds, p⟩ := h
    simp only [methD] at p
    split at p
    · rename_i es z
      obtain ⟨a, vs, rfl, q, r⟩ := hd.seqF
      obtain ⟨y, rfl, hy⟩ := repL1 hds
      cases (show _ = _ from hy)
      split at p
      · rename_i ys ey
        split at p
        · rename_i j hj
          have ee := strsOf_eq ey
          subst ee
          rw [r.strs] at q
          obtain ⟨⟨w, w1, w2⟩, w3⟩ := findI_some hj
          refine ⟨a, ys.map mkS, mkS z, j, rfl, rfl, hk ▸ q, ?_, fun m hm hz => ?_, p.here rel rfl⟩
          · rw [List.getElem?_map] at w1 ⊢
            obtain ⟨b, b1, b2⟩ := Option.map_eq_some_iff.mp w1
            subst b2
            have : b = z := by simpa [eqF] using w2
            rw [b1, this]; rfl
          · rw [List.getElem?_map] at hz
            obtain ⟨b, b1, b2⟩ := Option.map_eq_some_iff.mp hz
            have := w3 m (.str b) hm (by rw [List.getElem?_map, b1]; rfl)
            have hb : b = z := by simpa [mkS] using b2
            subst hb
            simp [eqF] at this
        · exact p.elim
      · exact p.elim
    · exact p.elim
  | .join => MtR.imp mt_join fun x xs H Q h => by
    obtain ⟨μ, S, d, ds, rel, hd, hds, p⟩ := h
    simp only [methD] at p
    split at p
    · rename_i a x'
      cases (show _ = _ from hd)
      obtain ⟨y, rfl, hy⟩ := repL1 hds
      split at p
      · rename_i es e
        obtain ⟨b, vs, rfl, q, r⟩ := seqOf_rep rel hy e
        split at p
        · rename_i ys ey
          split at p
          · rename_i hl
            have ee := strsOf_eq ey
            subst ee
            rw [r.strs] at q
            refine ⟨mkS a, b, ys.map mkS, rfl, rfl, hk ▸ q, ?_, ?_⟩
            · rw [List.map_map, List.length_map, mkS_len]
              have : (Str.length ∘ mkS) = fun (y : List Nat) => y.length := by funext y; exact mkS_len y
              rw [show ((fun x : Str => x.length) ∘ mkS) = fun (y : List Nat) => y.length from this]; exact hl
            · rw [joinL_eq]; exact p.here rel rfl
          · exact p.elim
        · exact p.elim
      · exact p.elim
    · exact p.elim
  | .scount => MtR.imp mt_count fun x xs H Q h => by
    obtain ⟨μ, S, d, ds, rel, hd, hds, p⟩ := h
    simp only [methD] at p
    split at p
    · cases (show _ = _ from hd)
      obtain ⟨y, rfl, hy⟩ := repL1 hds
      cases (show _ = _ from hy)
      exact ⟨_, _, rfl, rfl, p.here rel rfl⟩
    · exact p.elim
  | .get => by
    intro pins s σ H x xs v us Q I rx rxs h
    obtain ⟨μ, S, d, ds, rel, hd, hds, p⟩ := h
    simp only [methD] at p
    split at p
    · obtain ⟨y, rfl, hy⟩ := repL1 hds
      obtain ⟨u, rfl, ru⟩ := rxs.one
      split at p
      · rename_i o eo
        obtain ⟨a, ov, rfl, g, _, n1, n2⟩ := dGet_rep rel hd hy eo
        cases rx
        refine d_get1 (by omega) I g ru fun w' s' I' r' => ⟨_, H, I', r', ?_⟩
        cases o with
        | none => rw [n1 rfl]; exact p.here rel rfl
        | some w => obtain ⟨u, e, ru⟩ := n2 w rfl; rw [e]; exact p.here rel ru
      · exact p.elim
    · obtain ⟨y, z, rfl, hy, hz⟩ := repL2 hds
      obtain ⟨u, u2, rfl, ru, ru2⟩ := rxs.two
      split at p
      · rename_i o eo
        obtain ⟨a, ov, rfl, g, _, n1, n2⟩ := dGet_rep rel hd hy eo
        cases rx
        refine d_get2 (by omega) I g ru ru2 fun w' s' I' r' => ⟨_, H, I', r', ?_⟩
        cases o with
        | none => rw [n1 rfl]; exact p.here rel hz
        | some w => obtain ⟨u, e, ru⟩ := n2 w rfl; rw [e]; exact p.here rel ru
      · exact p.elim
    · exact p.elim
end
end Ev
end
section
set_option Elab.async false
set_option linter.all false
set_option maxRecDepth 100000
set_option maxHeartbeats 4000000
set_option autoImplicit false
/-! Ev, part C: zip and enumerate over lists, tuples, texts in any mix. -/
namespace Ev
open PySem PySem.Spec PyProof.Rows L2

/-- what a side of a zip draws from -/
inductive Sd where
  | l (a : Addr) | t (a : Addr) | s (z : Str)
def Sd.v : Sd → V
  | .l a => .ref a
  | .t a => .ref a
  | .s z => .str z
def Sd.ok (K : PySem.W.Frag) (H : Hp) : Sd → Prop
  | .l a => ∃ xs, SqL K H a xs
  | .t a => ∃ xs, SqT K H a xs
  | .s _ => True
/-- it has an item i, and which -/
def Sd.go (K : PySem.W.Frag) (H : Hp) (i : Nat) : Sd → Prop
  | .l a => ∃ xs x, SqL K H a xs ∧ xs[i]? = some x
  | .t a => ∃ xs x, SqT K H a xs ∧ xs[i]? = some x
  | .s z => ∃ c, z.cps[i]? = some c
def Sd.at (K : PySem.W.Frag) (H : Hp) (i : Nat) (x : V) : Sd → Prop
  | .l a => ∀ xs, SqL K H a xs → xs[i]? = some x
  | .t a => ∀ xs, SqT K H a xs → xs[i]? = some x
  | .s z => ∃ c, z.cps[i]? = some c ∧ x = .str ⟨#[c]⟩
def Sd.stop (K : PySem.W.Frag) (H : Hp) (i : Nat) : Sd → Prop
  | .l a => ∃ xs, SqL K H a xs ∧ xs.length = i
  | .t a => ∃ xs, SqT K H a xs ∧ xs.length = i
  | .s z => z.cps.size = i
def Sd.it (it : Addr) (i : Nat) (h : Heap) : Sd → Prop
  | .l a => h.IsListIter it a i
  | .t a => h.IsTupleIter it a i
  | .s z => ∃ t, h.IsStrIter it (strIterType z) z t i
theorem Sd.it_at {it : Addr} {i : Nat} {h h' : Heap} : ∀ {sd : Sd}, sd.it it i h → (∀ o, h.get? it = some o → h'.get? it = some o) → sd.it it i h'
  | .l _, st, k => st.at k
  | .t _, st, k => st.at k
  | .s _, ⟨tk, o, e, c, d⟩, k => ⟨tk, o, k o e, c, d⟩
theorem Sd.it_obj {it : Addr} {i : Nat} {h : Heap} : ∀ {sd : Sd}, sd.it it i h → ∃ o, h.get? it = some o ∧ ∀ v, o.data ≠ .cell v
  | .l _, ⟨o, e, _, d⟩ => ⟨o, e, fun v q => by rw [d] at q; cases q⟩
  | .t _, ⟨o, e, _, d⟩ => ⟨o, e, fun v q => by rw [d] at q; cases q⟩
  | .s _, ⟨tk, o, e, _, d⟩ => ⟨o, e, fun v q => by rw [d] at q; cases q⟩

section
variable {X : Cx} {pins : List (Addr × Obj)} {σ : L2.St} {H : Hp} {s : Shared}
theorem apart_K {a b : Addr} {o : Obj} (I : Inv X pins σ H s) (h : X.K.lookup a = some o) (hf : FpOk X pins H b) : a ≠ b := by
  rintro rfl
  have e := I.ok.mod.kin a o h
  obtain ⟨h1, _⟩ := I.ok.bs a o e
  rcases hf.2.2.2.1 with z | z
  · exact I.ok.noex a o e z
  · exact absurd (Nat.lt_of_lt_of_le (Heap.lt_size h1) z) (Nat.lt_irrefl _)
theorem apart_L {a b : Addr} {xs : List V} (I : Inv X pins σ H s) (h : SqL X.K H a xs) (hf : FpOk X pins H b) : a ≠ b := by
  rcases h with (h | ⟨o, h⟩) | ⟨o, its, n, h, _⟩
  · exact ne_of_none h hf.1
  · exact ne_of_none h hf.1
  · exact apart_K I h hf
theorem apart_T {a b : Addr} {xs : List V} (I : Inv X pins σ H s) (h : SqT X.K H a xs) (hf : FpOk X pins H b) : a ≠ b := by
  rcases h with (h | ⟨o, h⟩) | ⟨o, its, n, h, _⟩
  · exact ne_of_none h hf.1
  · exact ne_of_none h hf.1
  · exact apart_K I h hf
/-- what a side draws, from a state of ours -/
structure Drw (X : Cx) (pins : List (Addr × Obj)) (H : Hp) (s : Shared) (sd : Sd) (it : Addr) (i : Nat) (n : Nat) (fp : List Addr) (P : Nat → Value → Prop) (St : Nat → Heap → Prop) : Prop where
  d : Draws X.prog X.w X.A.in1 it fp n P St
  st : St i s.heap
  mem : it ∈ fp
  ap : ∀ b ∈ fp, b = it ∨ ∀ c, FpOk X pins H c → b ≠ c
  nx : ∀ h', St (i + 1) h' → sd.it it (i + 1) h'
  val : ∀ u, P i u → ∃ x, RelV x u ∧ sd.at X.K H i x
theorem drw (I : Inv X pins σ H s) (hc : X.calm = true) {sd : Sd} {it : Addr} {i : Nat} (hf : FpOk X pins H it) (st : sd.it it i s.heap) (g : sd.go X.K H i ∨ sd.stop X.K H i) :
    ∃ n fp P St, Drw X pins H s sd it i n fp P St ∧ (sd.go X.K H i → i < n) ∧ (sd.stop X.K H i → n = i) := by
  have hh : X.A.in1.handled = none := I.ok.hd hc
  cases sd with
  | l a =>
    obtain ⟨xs, hx⟩ : ∃ xs, SqL X.K H a xs := by
      rcases g with ⟨xs, x, q, _⟩ | ⟨xs, q, _⟩ <;> exact ⟨xs, q⟩
    obtain ⟨its, rv, p, _⟩ := I.list hx
    have hl := rv.length
    refine ⟨_, _, _, _, ⟨Draws.list hh it a (apart_L I hx hf) its.toArray, ⟨st, p.isList⟩, by simp, fun b hb => ?_, fun h' z => z.1, fun u hu => ?_⟩, fun ⟨ys, y, q, e⟩ => ?_, fun ⟨ys, q, e⟩ => ?_⟩
    · have hb : b = it ∨ b = a := by simpa using hb
      exact hb.imp id fun (e : b = a) c hc => by subst e; exact apart_L I hx hc
    · obtain ⟨j, hj⟩ : ∃ x, xs[i]? = some x := by
        have : i < its.length := by have := (Array.getElem?_eq_some_iff.mp hu).1; simpa using this
        exact ⟨xs[i]'(by omega), List.getElem?_eq_getElem (by omega)⟩
      obtain ⟨u', hu', ru⟩ := rv.get hj
      have : u = u' := by
        rw [List.getElem?_toArray] at hu
        rw [hu] at hu'; exact Option.some.inj hu'
      subst this
      exact ⟨_, ru, fun zs hz => by rw [I.list_inj hz hx]; exact hj⟩
    · rw [I.list_inj q hx] at e
      have := (List.getElem?_eq_some_iff.mp e).1
      simp; omega
    · rw [I.list_inj q hx] at e
      simp; omega
  | t a =>
    obtain ⟨xs, hx⟩ : ∃ xs, SqT X.K H a xs := by
      rcases g with ⟨xs, x, q, _⟩ | ⟨xs, q, _⟩ <;> exact ⟨xs, q⟩
    obtain ⟨its, rv, p, _⟩ := I.tuple hx
    have hl := rv.length
    refine ⟨_, _, _, _, ⟨Draws.tuple hh it a (apart_T I hx hf) its.toArray, ⟨st, p⟩, by simp, fun b hb => ?_, fun h' z => z.1, fun u hu => ?_⟩, fun ⟨ys, y, q, e⟩ => ?_, fun ⟨ys, q, e⟩ => ?_⟩
    · have hb : b = it ∨ b = a := by simpa using hb
      exact hb.imp id fun (e : b = a) c hc => by subst e; exact apart_T I hx hc
    · obtain ⟨j, hj⟩ : ∃ x, xs[i]? = some x := by
        have : i < its.length := by have := (Array.getElem?_eq_some_iff.mp hu).1; simpa using this
        exact ⟨xs[i]'(by omega), List.getElem?_eq_getElem (by omega)⟩
      obtain ⟨u', hu', ru⟩ := rv.get hj
      have : u = u' := by
        rw [List.getElem?_toArray] at hu
        rw [hu] at hu'; exact Option.some.inj hu'
      subst this
      exact ⟨_, ru, fun zs hz => by rw [I.tuple_inj hz hx]; exact hj⟩
    · rw [I.tuple_inj q hx] at e
      have := (List.getElem?_eq_some_iff.mp e).1
      simp; omega
    · rw [I.tuple_inj q hx] at e
      simp; omega
  | s z =>
    obtain ⟨t, st⟩ := st
    refine ⟨_, _, _, _, ⟨Draws.text hh it z t, st, by simp, fun b hb => .inl (by simpa using hb), fun h' q => ⟨t, q⟩, fun u ⟨c, tk, e1, e2⟩ => ⟨.str ⟨#[c]⟩, ⟨tk, e2⟩, c, e1, rfl⟩⟩, fun ⟨c, e⟩ => (Array.getElem?_eq_some_iff.mp e).1, fun e => e⟩
end

/-- both sides as they stand at each turn, in new pairs -/
def Jzip (K : PySem.W.Frag) (a b : Sd) : It :=
  ⟨fun i H => a.go K H i ∧ b.go K H i,
    fun i H v H' => ∃ T x y, v = .ref T ∧ H T = none ∧ H' = upd H T (.tup [x, y]) ∧ a.at K H i x ∧ b.at K H i y,
    fun i H => (a.stop K H i ∧ (b.stop K H i ∨ b.go K H i)) ∨ (b.stop K H i ∧ (a.stop K H i ∨ a.go K H i))⟩
structure ZC (z TI TO i1 i2 : Addr) : Prop where
  a : TI ≠ z
  b : TO ≠ z
  c : TI ≠ TO
  d : TI ≠ i1
  e : TI ≠ i2
  f : z ≠ i1
  g : z ≠ i2
  h : TO ≠ i1
  k : TO ≠ i2
  l : i1 ≠ i2
theorem turn_zipG {P : Program} {w : World} {K : PySem.W.Frag} {elts : List Expr} {kk : Nat} {tpos : Pos} {a b : Sd} {z TI TO i1 i2 : Addr} (D : ZC z TI TO i1 i2) :
    Turn P w K (.Tuple elts kk tpos) (Jzip K a b) [z, TI, TO, i1, i2] z (fun i h => IsZip h z TI TO .none ∧ IsTupOf2 h TI (.ref i1) (.ref i2) ∧ (∃ x y, IsTupOf2 h TO x y) ∧ a.it i1 i h ∧ b.it i2 i h) := by
  have sep : ∀ {X : Cx} {pins : List (Addr × Obj)} {H : Hp} {s : Shared} {i n1 n2 : Nat} {fp1 fp2 : List Addr} {P1 P2 : Nat → Value → Prop} {S1 S2 : Nat → Heap → Prop}, (∀ c ∈ [z, TI, TO, i1, i2], FpOk X pins H c) →
      Drw X pins H s a i1 i n1 fp1 P1 S1 → Drw X pins H s b i2 i n2 fp2 P2 S2 → ZipSep2 z TI TO i1 i2 fp1 fp2 := by
    intro X pins H s i n1 n2 fp1 fp2 P1 P2 S1 S2 hf d1 d2
    have ne1 : ∀ c ∈ [z, TI, TO, i1, i2], c ≠ i1 → c ∉ fp1 := fun c hc hne hm => by
      rcases d1.ap c hm with e | e
      · exact hne e
      · exact e c (hf c hc) rfl
    have ne2 : ∀ c ∈ [z, TI, TO, i1, i2], c ≠ i2 → c ∉ fp2 := fun c hc hne hm => by
      rcases d2.ap c hm with e | e
      · exact hne e
      · exact e c (hf c hc) rfl
    exact ⟨D.a, D.b, D.c, D.d, d1.mem, ne1 z (by simp) D.f, ne1 TO (by simp) D.h, D.e, d2.mem, ne2 z (by simp) D.g, ne2 TO (by simp) D.k, ne2 i1 (by simp) D.l, ne1 i2 (by simp) (Ne.symm D.l)⟩
  exact {
    mem := by simp
    obj := fun i h st c hc => by
      obtain ⟨hz, hTI, ⟨x, y, hTO⟩, h1, h2⟩ := st
      have e' : c = z ∨ c = TI ∨ c = TO ∨ c = i1 ∨ c = i2 := by simpa using hc
      rcases e' with q | q | q | q | q
      · rw [q]; exact ⟨_, hz, fun v q => nomatch q⟩
      · rw [q]; exact ⟨_, hTI, fun v q => nomatch q⟩
      · rw [q]; exact ⟨_, hTO, fun v q => nomatch q⟩
      · rw [q]; exact Sd.it_obj h1
      · rw [q]; exact Sd.it_obj h2
    keep := fun i h h' st k => by
      obtain ⟨hz, hTI, ⟨x, y, hTO⟩, h1, h2⟩ := st
      exact ⟨k z (by simp) _ hz, k TI (by simp) _ hTI, ⟨x, y, k TO (by simp) _ hTO⟩, Sd.it_at h1 fun o q => k i1 (by simp) o q, Sd.it_at h2 fun o q => k i2 (by simp) o q⟩
    item := by
      intro X hP hw hK hc i pins s σ H E I hf st hg
      subst hP hw hK
      obtain ⟨hz, hTI, ⟨x0, y0, hTO⟩, h1, h2⟩ := st
      obtain ⟨n1, fp1, P1, S1, d1, l1, _⟩ := drw I hc (hf i1 (by simp)) h1 (.inl hg.1)
      obtain ⟨n2, fp2, P2, S2, d2, l2, _⟩ := drw I hc (hf i2 (by simp)) h2 (.inl hg.2)
      have W := WalksT.zipD2 (sep hf d1 d2) d1.d d2.d
      have m1 := l1 hg.1
      have m2 := l2 hg.2
      refine W.item i s _ _ (by omega) ⟨hz, hTI, ⟨_, _, hTO⟩, d1.st, d2.st⟩ fun T vals h' tk hp hT hTv hm hk => ?_
      obtain ⟨u1, u2, p1, p2, rfl⟩ := hp
      obtain ⟨x, rx, ax⟩ := d1.val u1 p1
      obtain ⟨y, ry, ay⟩ := d2.val u2 p2
      have hap := W.apart i T h' hm
      refine ⟨_, rfl, W.go elts kk tpos i T { s with heap := h', toks := tk } _ _ hm fun h'' st2 hk2 => ?_⟩
      have hTv2 : h''.IsTuple T #[u1, u2] := hTv.at fun o e => hk2 T o hap e
      have wr : ∀ c, c ∈ [z, TO, i1, i2] → c ∈ [z, TI, TO, i1, i2] := fun c h => by
        have : c = z ∨ c = TO ∨ c = i1 ∨ c = i2 := by simpa using h
        rcases this with e | e | e | e <;> simp [e]
      have new : ObjOk X.prog X.w (upd H T (.tup [x, y])) h'' T (.tup [x, y]) :=
        ⟨by show 2 ≤ sizeLine; decide, [u1, u2], .cons rx (.cons ry .nil), hTv2⟩
      have I1 : Inv X pins σ (upd H T (.tup [x, y])) { s with heap := h'', toks := tk } :=
        I.turnedNew (t' := tk) (ch := [z, TI, TO, i1, i2]) (fun c o hb q => hk2 c o (fun z => hb (wr c z)) (hk c o (fun z => hb (wr c z)) q)) hf hT new
      obtain ⟨g1, g2, g3, g4, g5⟩ := st2
      refine ⟨.ref T, _, I1, rfl, ⟨T, x, y, rfl, I.hok.fresh hT, rfl, ax, ay⟩, ⟨g1, g2, g3, d1.nx _ g4, d2.nx _ g5⟩, fun c hcm => ?_⟩
      have hlt : c < s.heap.objs.size := by
        have e' : c = z ∨ c = TI ∨ c = TO ∨ c = i1 ∨ c = i2 := by simpa using hcm
        rcases e' with q | q | q | q | q
        · rw [q]; exact Heap.lt_size hz
        · rw [q]; exact Heap.lt_size hTI
        · rw [q]; exact Heap.lt_size hTO
        · rw [q]; obtain ⟨_, e1, _⟩ := Sd.it_obj h1; exact Heap.lt_size e1
        · rw [q]; obtain ⟨_, e1, _⟩ := Sd.it_obj h2; exact Heap.lt_size e1
      rw [upd_ne (Nat.ne_of_lt (Nat.lt_of_lt_of_le hlt hT))]
      exact (hf c hcm).1
    done := by
      intro X hP hw hK hc i pins s σ H E I hf st hg
      subst hP hw hK
      obtain ⟨hz, hTI, ⟨x0, y0, hTO⟩, h1, h2⟩ := st
      have ga : a.go X.K H i ∨ a.stop X.K H i := by rcases hg with ⟨q, _⟩ | ⟨_, q | q⟩; exact .inr q; exact .inr q; exact .inl q
      have gb : b.go X.K H i ∨ b.stop X.K H i := by rcases hg with ⟨_, q | q⟩ | ⟨q, _⟩; exact .inr q; exact .inl q; exact .inr q
      obtain ⟨n1, fp1, P1, S1, d1, l1, m1⟩ := drw I hc (hf i1 (by simp)) h1 ga
      obtain ⟨n2, fp2, P2, S2, d2, l2, m2⟩ := drw I hc (hf i2 (by simp)) h2 gb
      have hh : i ≤ n1 ∧ i ≤ n2 ∧ (i = n1 ∨ i = n2) := by
        rcases hg with ⟨q, q2 | q2⟩ | ⟨q, q2 | q2⟩
        · have := m1 q; have := m2 q2; omega
        · have := m1 q; have := l2 q2; omega
        · have := m2 q; have := m1 q2; omega
        · have := m2 q; have := l1 q2; omega
      refine wpAny_pyNext_zipD2_end (sep hf d1 d2) d1.d d2.d hz hTI hTO d1.st d2.st hh.1 hh.2.1 hh.2.2 fun h' tk hk => ⟨rfl, I.turnedL (t' := tk) (ch := [z, TI, TO, i1, i2]) (fun c o hb q =>
        hk c o (fun q' => hb (by simp [q'])) (fun q' => hb (by simp [q'])) (fun q' => hb (by simp [q'])) (fun q' => hb (by simp [q'])) q) hf⟩
    self := fun A i s Q E st h => wpAny_pyIter_zip st.1 h }
end Ev
end
section
set_option Elab.async false
set_option linter.all false
set_option maxRecDepth 100000
set_option maxHeartbeats 4000000
set_option autoImplicit false
/-! Ev, part C2: the calls zip(..), enumerate(..). -/
namespace Ev
open PySem PySem.Spec PyProof.Rows L2
open Builtin in
theorem meets_enum1 {v : Value} {o : Obj} {H : Heap → Prop} (B : Begins v o H) :
    Meets (Builtin.«enumerate.__new__» ⟨[.type "enumerate", v], []⟩) (fun _ R s => H s.heap ∧
      R (.ok (.ret (.ref (s.heap.push o).objs.size))) { s with heap := (s.heap.push o).push { cls := .type "enumerate", data := .fields #[.none, .bool false, .ref s.heap.objs.size, rawInt 0, .none, .none] } }) :=
  .of_wp fun prog w A R s h => by
    obtain ⟨hp, g, d, tk, os⟩ := s; obtain ⟨h1, h⟩ := h
    have hsub := sub_enumerate
    have q1 : ∀ {A' : Around} {E : Value → Shared → Prop} {Q : Value → Shared → Prop}, Q (.ref hp.objs.size) ⟨hp.push o, g, d, tk, os⟩ → wpAny (model prog w) A' (pyIter v) Q E ⟨hp, g, d, tk, os⟩ :=
      fun q => B.iter prog w _ _ ⟨hp, g, d, tk, os⟩ _ h1 q
    wp_walk using q1
    refine wpAny_stack_any fun st => wpAny_pure ?_
    split
    · rename_i c _ _ _ _ _
      cases (c == Value.type "enumerate")
      · wp_walk using q1
        exact ⟨_, rfl, h⟩
      · wp_walk using q1
        exact ⟨_, rfl, h⟩
    · wp_walk using q1
      exact ⟨_, rfl, h⟩
theorem enum_begins1 {prog : Program} {w : World} {A : Around} {E : Value → Shared → Prop} {s : Shared} {v : Value} {o : Obj} {H : Heap → Prop} {Q : Value → Shared → Prop} (B : Begins v o H) (h1 : H s.heap)
    (h : ∀ h', IsEnum h' (s.heap.objs.size + 1) s.heap.objs.size 0 .none → h'.get? s.heap.objs.size = some o → h'.objs.size = s.heap.objs.size + 2 →
      (∀ b o, s.heap.get? b = some o → h'.get? b = some o) → Q (.ref (s.heap.objs.size + 1)) { s with heap := h' }) :
    wpAny (model prog w) A (call (.type "enumerate") [v]) Q E s := by
  refine callType_new F.called_enumerate (by decide) (F.typeCall_enumerate_1 _) (F.newCall_enumerate_1 _) (fun obj => F.args_object_init_2 obj _) F.entry_enumerate_new
    (meets_enum1 B) ⟨h1, ?_⟩
  have hz : (s.heap.push o).objs.size = s.heap.objs.size + 1 := Heap.size_push ..
  show _ ∧ _
  rw [hz]
  have he : IsEnum ((s.heap.push o).push { cls := .type "enumerate", data := .fields #[.none, .bool false, .ref s.heap.objs.size, rawInt 0, .none, .none] }) (s.heap.objs.size + 1) s.heap.objs.size 0 .none := by
    have := Heap.get?_push_size (s.heap.push o) (o := { cls := .type "enumerate", data := .fields #[.none, .bool false, .ref s.heap.objs.size, rawInt 0, .none, .none] }) rfl
    rw [hz] at this; exact this
  refine ⟨⟨_, he, rfl⟩, h _ he (Heap.get?_push_of_some _ (Heap.get?_push_size _ B.free)) (by rw [Heap.size_push, hz]) fun b o x => Heap.get?_push_of_some _ (Heap.get?_push_of_some _ x)⟩

section
variable {X : Cx} {pins : List (Addr × Obj)} {σ : L2.St} {H : Hp} {s : Shared}
theorem sd_begins (I : Inv X pins σ H s) {sd : Sd} {v : Value} (ok : sd.ok X.K H) (r : RelV sd.v v) :
    ∃ o Hh, Begins v o Hh ∧ Hh s.heap ∧ ∀ (h' : Heap) (it : Addr), h'.get? it = some o → sd.it it 0 h' := by
  cases sd with
  | l a =>
    obtain ⟨xs, hx⟩ := ok
    obtain ⟨its, rv, p, _⟩ := I.list hx
    cases r
    exact ⟨_, _, begins_list a its.toArray, p.isList, fun h' it e => ⟨_, e, rfl, rfl⟩⟩
  | t a =>
    obtain ⟨xs, hx⟩ := ok
    obtain ⟨its, rv, p, _⟩ := I.tuple hx
    cases r
    exact ⟨_, _, begins_tuple a its.toArray, p, fun h' it e => ⟨_, e, rfl, rfl⟩⟩
  | s z =>
    obtain ⟨t, rfl⟩ := r
    exact ⟨_, _, begins_text z t, trivial, fun h' it e => ⟨t, _, e, rfl, rfl⟩⟩
end
def iZipG (K : PySem.W.Frag) (ta : TA) : TI := fun σ H R => ta σ H fun vs H1 => ∃ a b : Sd, vs = [a.v, b.v] ∧ a.ok K H1 ∧ b.ok K H1 ∧ R (Jzip K a b) H1
theorem pi_zipG {X : Cx} {e e2 : Expr} {ta : TA} {p pos tpos : Pos} {elts : List Expr} {kk : Nat} (hg : Gl X "zip") (hm : X.mg "zip" = none) (ha : PA X [e, e2] ta)
    (hs : starEach [e, e2] X.env = (false, eval e X.env) :: starEach [e2] X.env := by rfl) (hpl : (backTo pos (starEach [e2] X.env)).any (·.1) = false := by rfl) :
    PI X (.Tuple elts kk tpos) (.Call (.Name "zip" p) [e, e2] [] pos) (iZipG X.K ta) := by
  refine ⟨fun pins s σ H R I h => ?_⟩
  refine Call_ (ld_blt I hg hm PyProof.Rows.boot_zip (PyProof.Rows.callWith_type1 (thn (ha.run pos pins s σ H _ I h) fun us s1 ⟨vs, H1, I1, r1, q1⟩ => ?_) hs hpl))
  obtain ⟨a, b, rfl, oka, okb, q⟩ := q1
  obtain ⟨u1, u2, rfl, ra, rb⟩ := r1.two
  obtain ⟨o1, H1', B1, hb1, t1⟩ := sd_begins I1 oka ra
  obtain ⟨o2, H2', B2, hb2, t2⟩ := sd_begins I1 okb rb
  refine zip_begins2 B1 B2 hb1 hb2 fun h' hz hTI hTO h1 h2 hsz hk => wpAny_pyIter_zip hz ?_
  have I2 : Inv X pins σ H1 { s1 with heap := h' } := I1.kept (t' := s1.toks) hk
  refine ⟨s1.heap.objs.size + 4, [s1.heap.objs.size + 4, s1.heap.objs.size + 2, s1.heap.objs.size + 3, s1.heap.objs.size, s1.heap.objs.size + 1], _, _, H1, rfl, I2,
    turn_zipG (z := s1.heap.objs.size + 4) (TI := s1.heap.objs.size + 2) (TO := s1.heap.objs.size + 3) (i1 := s1.heap.objs.size) (i2 := s1.heap.objs.size + 1) ?_, ⟨hz, hTI, ⟨_, _, hTO⟩, t1 _ _ h1, t2 _ _ h2⟩, fun c hcm => ?_, q⟩
  · generalize hN : s1.heap.objs.size = N
    exact ⟨show (N + 2 : Nat) ≠ N + 4 by omega, show (N + 3 : Nat) ≠ N + 4 by omega, show (N + 2 : Nat) ≠ N + 3 by omega, show (N + 2 : Nat) ≠ N by omega, show (N + 2 : Nat) ≠ N + 1 by omega,
      show (N + 4 : Nat) ≠ N by omega, show (N + 4 : Nat) ≠ N + 1 by omega, show (N + 3 : Nat) ≠ N by omega, show (N + 3 : Nat) ≠ N + 1 by omega, show (N : Nat) ≠ N + 1 by omega⟩
  · have e' : c = s1.heap.objs.size + 4 ∨ c = s1.heap.objs.size + 2 ∨ c = s1.heap.objs.size + 3 ∨ c = s1.heap.objs.size ∨ c = s1.heap.objs.size + 1 := by simpa using hcm
    have hle : s1.heap.objs.size ≤ c := by
      rcases e' with z | z | z | z | z
      · rw [z]; exact Nat.le_add_right _ _
      · rw [z]; exact Nat.le_add_right _ _
      · rw [z]; exact Nat.le_add_right _ _
      · rw [z]; exact Nat.le_refl _
      · rw [z]; exact Nat.le_add_right _ _
    exact I1.fpOk hle (I1.hok.fresh hle)

/-- enumerate: the items in new pairs, their places ahead -/
def Jenum (K : PySem.W.Frag) (a : Sd) : It :=
  ⟨fun i H => a.go K H i,
    fun i H v H' => ∃ T x, v = .ref T ∧ H T = none ∧ H' = upd H T (.tup [.int (i : Nat), x]) ∧ a.at K H i x,
    fun i H => a.stop K H i⟩
theorem turn_enumG {P : Program} {w : World} {K : PySem.W.Frag} {elts : List Expr} {kk : Nat} {tpos : Pos} {a : Sd} {e it : Addr} (D : e ≠ it) :
    Turn P w K (.Tuple elts kk tpos) (Jenum K a) [e, it] e (fun i h => (∃ old, IsEnum h e it (0 + (i : Int)) old) ∧ a.it it i h) := by
  have sep : ∀ {X : Cx} {pins : List (Addr × Obj)} {H : Hp} {s : Shared} {i n1 : Nat} {fp1 : List Addr} {P1 : Nat → Value → Prop} {S1 : Nat → Heap → Prop}, (∀ c ∈ [e, it], FpOk X pins H c) →
      Drw X pins H s a it i n1 fp1 P1 S1 → e ∉ fp1 := by
    intro X pins H s i n1 fp1 P1 S1 hf d1 hm
    rcases d1.ap e hm with q | q
    · exact D q
    · exact q e (hf e (by simp)) rfl
  exact {
    mem := by simp
    obj := fun i h st c hc => by
      obtain ⟨⟨old, he⟩, h1⟩ := st
      have e' : c = e ∨ c = it := by simpa using hc
      rcases e' with q | q
      · rw [q]; exact ⟨_, he, fun v q => nomatch q⟩
      · rw [q]; exact Sd.it_obj h1
    keep := fun i h h' st k => by
      obtain ⟨⟨old, he⟩, h1⟩ := st
      exact ⟨⟨old, k e (by simp) _ he⟩, Sd.it_at h1 fun o q => k it (by simp) o q⟩
    item := by
      intro X hP hw hK hc i pins s σ H E I hf st hg
      subst hP hw hK
      obtain ⟨he, h1⟩ := st
      obtain ⟨n1, fp1, P1, S1, d1, l1, _⟩ := drw I hc (hf it (by simp)) h1 (.inl hg)
      have W := WalksT.enumFrom 0 d1.d e D (sep hf d1) d1.mem
      refine W.item i s _ _ (l1 hg) ⟨he, d1.st⟩ fun T vals h' tk hp hT hTv hm hk => ?_
      obtain ⟨t, u, p1, rfl⟩ := hp
      obtain ⟨x, rx, ax⟩ := d1.val u p1
      have hap := W.apart i T h' hm
      refine ⟨_, rfl, W.go elts kk tpos i T { s with heap := h', toks := tk } _ _ hm fun h'' st2 hk2 => ?_⟩
      have hTv2 : h''.IsTuple T #[.int (0 + (i : Int)) t, u] := hTv.at fun o e => hk2 T o hap e
      have new : ObjOk X.prog X.w (upd H T (.tup [.int (i : Nat), x])) h'' T (.tup [.int (i : Nat), x]) :=
        ⟨by show 2 ≤ sizeLine; decide, [.int (0 + (i : Int)) t, u], .cons ⟨t, by rw [Int.zero_add]⟩ (.cons rx .nil), hTv2⟩
      have I1 : Inv X pins σ (upd H T (.tup [.int (i : Nat), x])) { s with heap := h'', toks := tk } :=
        I.turnedNew (t' := tk) (ch := [e, it]) (fun c o hb q => hk2 c o hb (hk c o hb q)) hf hT new
      obtain ⟨g1, g2⟩ := st2
      refine ⟨.ref T, _, I1, rfl, ⟨T, x, rfl, I.hok.fresh hT, rfl, ax⟩, ⟨g1, d1.nx _ g2⟩, fun c hcm => ?_⟩
      have hlt : c < s.heap.objs.size := by
        have e' : c = e ∨ c = it := by simpa using hcm
        rcases e' with q | q
        · rw [q]; obtain ⟨_, he⟩ := he; exact Heap.lt_size he
        · rw [q]; obtain ⟨_, e1, _⟩ := Sd.it_obj h1; exact Heap.lt_size e1
      rw [upd_ne (Nat.ne_of_lt (Nat.lt_of_lt_of_le hlt hT))]
      exact (hf c hcm).1
    done := by
      intro X hP hw hK hc i pins s σ H E I hf st hg
      subst hP hw hK
      obtain ⟨he, h1⟩ := st
      obtain ⟨n1, fp1, P1, S1, d1, l1, m1⟩ := drw I hc (hf it (by simp)) h1 (.inr hg)
      have W := WalksT.enumFrom 0 d1.d e D (sep hf d1) d1.mem
      have hn := m1 hg
      subst hn
      exact W.done s _ _ ⟨he, d1.st⟩ fun h' tk hk => ⟨rfl, I.turnedL (t' := tk) (ch := [e, it]) (fun c o hb q => hk c o hb q) hf⟩
    self := fun A i s Q E st h => by obtain ⟨⟨_, he⟩, _⟩ := st; exact wpAny_pyIter_enum he h }
def iEnumG (K : PySem.W.Frag) (ta : TA) : TI := fun σ H R => ta σ H fun vs H1 => ∃ a : Sd, vs = [a.v] ∧ a.ok K H1 ∧ R (Jenum K a) H1
theorem pi_enumG {X : Cx} {e : Expr} {ta : TA} {p pos tpos : Pos} {elts : List Expr} {kk : Nat} (hg : Gl X "enumerate") (hm : X.mg "enumerate" = none) (ha : PA X [e] ta)
    (hs : starEach [e] X.env = (false, eval e X.env) :: starEach [] X.env := by rfl) :
    PI X (.Tuple elts kk tpos) (.Call (.Name "enumerate" p) [e] [] pos) (iEnumG X.K ta) := by
  refine ⟨fun pins s σ H R I h => ?_⟩
  refine Call_ (ld_blt I hg hm boot_enumerate (PyProof.Rows.callWith_type1 (thn (ha.run pos pins s σ H _ I h) fun us s1 ⟨vs, H1, I1, r1, q1⟩ => ?_) hs rfl))
  obtain ⟨a, rfl, oka, q⟩ := q1
  obtain ⟨u1, rfl, ra⟩ := r1.one
  obtain ⟨o1, H1', B1, hb1, t1⟩ := sd_begins I1 oka ra
  refine enum_begins1 B1 hb1 fun h' he h1 hsz hk => wpAny_pyIter_enum he ?_
  have I2 : Inv X pins σ H1 { s1 with heap := h' } := I1.kept (t' := s1.toks) hk
  refine ⟨s1.heap.objs.size + 1, [s1.heap.objs.size + 1, s1.heap.objs.size], _, _, H1, rfl, I2,
    turn_enumG (Nat.succ_ne_self _), ⟨⟨_, he⟩, t1 _ _ h1⟩, fun b hb => ?_, q⟩
  have e' : b = s1.heap.objs.size + 1 ∨ b = s1.heap.objs.size := by simpa using hb
  have hle : s1.heap.objs.size ≤ b := by
    rcases e' with z | z
    · rw [z]; exact Nat.le_add_right _ _
    · rw [z]; exact Nat.le_refl _
  exact I1.fpOk hle (I1.hok.fresh hle)
end Ev
end
section
set_option Elab.async false
set_option linter.all false
set_option maxRecDepth 100000
set_option maxHeartbeats 4000000
set_option autoImplicit false
/-! Ev, part T: except clauses, some with a name; X() of an own class; __init__ of an own exception. -/
namespace Ev
open PySem PySem.Spec PyProof.Rows L2

def dAs (i : Nat) (D : Ends) : Ends := { nx := fun σ' H' => D.nx (σ'.set i none) H', rt := D.rt, bk := fun σ' H' => D.bk (σ'.set i none) H', ct := fun σ' H' => D.ct (σ'.set i none) H' }
structure Hd where
  c : Value
  nm : Option Nat
  ts : Addr → Value → Option Addr → TS
def wMix (K : PySem.W.Frag) (Wout : WX) (D : Ends) : List Hd → WX
  | [] => Wout
  | h :: r => fun cls d σ H => ∃ b, PySem.W.exmOne K cls h.c = some b ∧
      (b = true → ∀ a, H a = none → match h.nm with
        | none => h.ts a cls d D σ H
        | some i => h.ts a cls d (dAs i D) (σ.set i (some (.ref a))) H) ∧ (b = false → wMix K Wout D r cls d σ H)
inductive HdsMix (X : Cx) : List ExceptHandler → List Hd → Prop
  | nil : HdsMix X [] []
  | cons {x : Str} {c : Value} {n : Option (Str × Nat)} {ts : Addr → Value → Option Addr → TS} {b₀ : Stmt} {suite : List Stmt} {np pos' : Pos} {hds : List ExceptHandler} {l : List Hd} (hc : Names X x c)
      (hn : ∀ q, n = some q → X.N[q.2]? = some q.1 ∧ X.env.kindOf q.1 = some .local)
      (hsu : ∀ (a : Addr) (oe : Obj) (cls : Value) (d : Option Addr) (pn : List (Addr × Obj)), Zc cls d oe → (∃ vs, oe.data = .fields vs) → PSs (X.suite a ((a, oe) :: pn)) (b₀ :: suite) (ts a cls d)) (r : HdsMix X hds l) :
      HdsMix X (.ExceptHandler (some (.Name x np)) (n.map (·.1)) (b₀ :: suite) pos' :: hds) (⟨c, n.map (·.2), ts⟩ :: l)
section
variable {X : Cx} {body : List Stmt} {h₀ : ExceptHandler} {hds : List ExceptHandler} {l : List Hd} {pos : Pos} {tb : WX → TS} {Wout : WX}
theorem ps_try_mix (hs : X.stack = X.env :: X.outer) (hf : X.env.frame = some X.env.locals) (hN : X.N.Nodup) (tk : Takes X Wout)
    (hb : ∀ (W : WX) (pn : List (Addr × Obj)) (xe : Value → Shared → Prop), Takes (X.tr pn xe) W → PassesOwn (model X.prog X.w) X.A X.env xe → PSs (X.tr pn xe) body (tb W))
    (hh : HdsMix X (h₀ :: hds) l) : PS X (.Try body (h₀ :: hds) [] [] pos) (fun D σ H => tb (wMix X.K Wout D l) D σ H) := by
  refine ⟨fun pins s σ H D I h => ?_⟩
  have ok := I.ok
  have hfr : X.A.frames = some (X.env :: X.outer) := by rw [ok.frames, hs]
  refine wpAny_Try_except ?_
  refine wpAny_mono ((hb (wMix X.K Wout D l) (X.pn ++ pins) (fun e s₁ => wpAny (model X.prog X.w) X.A (noteFrame e X.env) (fun _ s₂ => wpAny (model X.prog X.w) X.A (setFlight e none) (fun _ s₃ =>
    wpAny (model X.prog X.w) X.A (handleBy e X.env (h₀ :: hds)) (SP X pins D) X.xe s₃) X.xe s₂) X.xe s₁) (fun u s' xx => ?_) PassesOwn.looking).run [] s σ H D (I.toTry _) h) (fun f s1 hsp => ?_) (fun e s1 he => he)
  · obtain ⟨a, B, sI, pins', σ', H', cls, d, rfl, J', nb, up, sky, na, os, ag, w⟩ := xx
    have J : Inv X pins σ' H' sI := J'.ofTry ok
    have sky' : Sky B (X.env :: X.outer) a (Zc cls d) X.env.locals s'.heap := by rw [← hs]; exact sky
    show wpAny (model X.prog X.w) X.A (noteFrame (.ref a) X.env) _ _ _
    refine Sky.land Zc.steady hfr hf sky' fun h3 fl3 up3 => ?_
    have J3 : Inv X pins σ' H' { s' with heap := h3 } := J.landed nb fl3.1 (up.trans up3) os ag
    obtain ⟨oe3, vs3, he3, hz3, hd3⟩ := fl3.there
    have notFr : ∀ {h : Heap} {o : Obj} {vs : Array Value}, h.FunFrames B (X.env :: X.outer) → h.get? a = some o → o.data = .fields vs → a ∉ frs (X.env :: X.outer) := fun {h o vs} ff e dd hm => by
      obtain ⟨_, o', e', hnf⟩ := ff.mem hm
      rw [e] at e'; cases e'
      exact hnf _ dd
    have nfr := notFr fl3.2.2.1 he3 hd3
    have nL : a ≠ X.env.locals := fun z => nfr (List.mem_filterMap.mpr ⟨X.env, List.mem_cons_self, by rw [hf, z]⟩)
    have nF : a ∉ X.fs := fun hm => by
      obtain ⟨e, he, q⟩ := List.mem_filterMap.mp hm
      exact nfr (List.mem_filterMap.mpr ⟨e, List.mem_cons_of_mem _ he, q⟩)
    have S3 := J3.suite he3 hd3 na nL nF
    have go : ∀ {hds' : List ExceptHandler} {l' : List Hd}, HdsMix X hds' l' → wMix X.K Wout D l' cls d σ' H' →
        wpAny (model X.prog X.w) X.A (handleBy (.ref a) X.env hds') (SP X pins D) X.xe { s' with heap := h3 } := by
      intro hds' l' hk
      induction hk with
      | nil =>
        intro w
        refine wpAny_handleBy_nil ?_
        obtain ⟨k1, k2, k3, oe, vs, T, oT, ts', he, hz, hd, h1, hr⟩ := id fl3
        unfold PySem.passOn
        refine wpAny_bind (wpAny_field he hd h1 ?_)
        rw [if_neg (show ¬ ((Value.ref T == Value.none) = true) from by simp)]
        have fin : wpAny (model X.prog X.w) X.A (setFlight (.ref a) X.env.frame) (fun _ s4 => wpAny (model X.prog X.w) X.A (throw (.ref a) : Sem Flow) (SP X pins D) X.xe s4) X.xe { s' with heap := h3 } := by
          rw [hf]
          refine HandSPX.setFlight_upZ fl3 fun h4 hh4 up4 => wpAny_throw (tk _ _ ?_)
          exact ⟨a, B, sI, pins, σ', H', cls, d, rfl, J, nb, (up.trans up3).trans up4, .inr (.inr (by rw [hs]; exact hh4)), na, os, ag, w⟩
        first
          | exact wpAny_bind (wpAny_pure (wpAny_bind fin))
          | exact wpAny_bind fin
      | @cons x c n ts b₀ suite np pos' hds2 l2 hc hn hsu r ih =>
        intro w
        obtain ⟨b, hb1, hyes, hno⟩ := w
        refine wpAny_handleBy_cons (codeAny_handlers_test ?_) (by intro q; cases q)
        have LT : PySem.W.Looks (model X.prog X.w) h3 (typeOf (.ref a)) cls := fun A Q E s k q => wpAny_typeOf_ref (k _ _ he3) (by rw [hz3.1]; exact q)
        have LM := PySem.W.exm_one (M := model X.prog X.w) (J3.kIn) LT hb1
        have test : ∀ {Q : Value → Shared → Prop} {E : Value → Shared → Prop}, Q c { s' with heap := h3 } → wpAny (model X.prog X.w) (X.A.mark (some (.ref a))) (eval (.Name x np) X.env) Q E { s' with heap := h3 } := fun {Q E} q => by
          obtain ⟨hg, hdbg, hm | ⟨hm, hv, hnn⟩⟩ := hc
          · exact ld_glob (X := X.suite a ((a, oe3) :: (X.pn ++ pins))) S3 hg hm q hdbg
          · exact ld_blt (X := X.suite a ((a, oe3) :: (X.pn ++ pins))) S3 hg hm hv q hnn hdbg
        refine test (LM.here ?_)
        cases b with
        | true =>
          cases n with
          | none =>
            refine codeAny_handlers_suite ?_
            refine HandSPX.lands_againZ fl3 fun h4 fl4 up4 => ?_
            have J4 : Inv X pins σ' H' { s' with heap := h4 } := J.landed nb fl4.1 ((up.trans up3).trans up4) os ag
            obtain ⟨oe4, vs4, he4, hz4, hd4⟩ := fl4.there
            have S4 := J4.suite he4 hd4 na nL nF
            refine wpAny_mono ((hsu a oe4 cls d (X.pn ++ pins) hz4 ⟨_, hd4⟩).run [] _ _ H' _ S4 (hyes rfl a na)) (fun f s6 hsp => ?_) (fun _ _ z => False.elim z)
            cases f with
            | next =>
              obtain ⟨σ6, H6, S6, q6⟩ := hsp
              exact ⟨_, _, S6.unsuite ok, q6⟩
            | brk =>
              obtain ⟨σ6, H6, S6, q6⟩ := hsp
              exact ⟨_, _, S6.unsuite ok, q6⟩
            | cont =>
              obtain ⟨σ6, H6, S6, q6⟩ := hsp
              exact ⟨_, _, S6.unsuite ok, q6⟩
            | ret u =>
              obtain ⟨v6, σ6, H6, S6, r6, q6⟩ := hsp
              exact ⟨_, _, _, S6.unsuite ok, r6, q6⟩
          | some q =>
            obtain ⟨nn, i⟩ := q
            obtain ⟨hi, hln⟩ := hn _ rfl
            have hloc : Loc X.env.scope nn := .inl hln
            refine codeAny_handlers_suite_as ?_
            refine HandSPX.lands_againZ fl3 fun h4 fl4 up4 => ?_
            have J4 : Inv X pins σ' H' { s' with heap := h4 } := J.landed nb fl4.1 ((up.trans up3).trans up4) os ag
            obtain ⟨oe4, vs4, he4, hz4, hd4⟩ := fl4.there
            have S4 := J4.suite he4 hd4 na nL nF
            refine store_ok (X := X.suite a ((a, oe4) :: (X.pn ++ pins))) (v := .ref a) S4 hN hi hloc rfl (fun s5 S5 => ?_) (.inr hln)
            refine wpAny_mono ((hsu a oe4 cls d (X.pn ++ pins) hz4 ⟨_, hd4⟩).run [] s5 _ H' _ S5 (hyes rfl a na)) (fun f s6 hsp => ?_) (fun _ _ z => False.elim z)
            have end_ : ∀ {σ6 : L2.St} {H6 : Hp} {Q : Shared → Prop}, Inv (X.suite a ((a, oe4) :: (X.pn ++ pins))) [] σ6 H6 s6 → (∀ s7, Inv X pins (σ6.set i none) H6 s7 → Q s7) →
                wpAny (model X.prog X.w) X.A (do bindName X.env nn .none; unbindBehindTheSuite X.env nn pos') (fun _ s7 => Q s7) X.xe s6 := fun {σ6 H6 Q} S6 hq => gone_ok (S6.unsuite ok) hN hi hln hq
            cases f with
            | next =>
              obtain ⟨σ6, H6, S6, q6⟩ := hsp
              exact end_ S6 fun s7 J7 => ⟨_, _, J7, q6⟩
            | brk =>
              obtain ⟨σ6, H6, S6, q6⟩ := hsp
              exact end_ S6 fun s7 J7 => ⟨_, _, J7, q6⟩
            | cont =>
              obtain ⟨σ6, H6, S6, q6⟩ := hsp
              exact end_ S6 fun s7 J7 => ⟨_, _, J7, q6⟩
            | ret u =>
              obtain ⟨v6, σ6, H6, S6, r6, q6⟩ := hsp
              exact end_ S6 fun s7 J7 => ⟨_, _, _, J7, r6, q6⟩
        | false =>
          show wpAny _ X.A (handleBy (.ref a) X.env hds2) _ _ _
          exact ih (hno rfl)
    exact go hh w
  · cases f with
    | next =>
      obtain ⟨σ', H', J', q⟩ := hsp
      exact wpAny_execs_nil ⟨σ', H', J'.ofTry ok, q⟩
    | brk =>
      obtain ⟨σ', H', J', q⟩ := hsp
      exact ⟨σ', H', J'.ofTry ok, q⟩
    | cont =>
      obtain ⟨σ', H', J', q⟩ := hsp
      exact ⟨σ', H', J'.ofTry ok, q⟩
    | ret u =>
      obtain ⟨v, σ', H', J', r, q⟩ := hsp
      exact ⟨v, σ', H', J'.ofTry ok, r, q⟩
end

/-- X() of an own exception class without an own __init__ -/
theorem pmk_own0 {X : Cx} {C : Addr} {bmB : List Value} {B newId initId : String} {x : Str} {p pos : Pos} (F : ExcBaseFacts B newId initId bmB) (q : PySem.W.excIn X.K C bmB newId = true) (gC : X.mg x = some (.ref C)) (kC : PySem.W.keepIn X.K (.ref C) = true) (r : Raises X (.ref C)) (hg : Gl X x)
    (hdb : (x == ("__debug__" : Str)) = false := by decide) : PMk X (.Call (.Name x p) [] [] pos) (fun _ H Q => Q (.ref C) none H) := by
  intro pins s σ H Q I h
  refine wpAny_Call_Name_kw (ld_glob I hg gC ?_ hdb)
  refine PySem.W.callWith_K0 I.kIn kC ?_
  show wpAny _ _ (call (.ref C) []) _ _ _
  obtain ⟨bm, N, nm, qn, bs, hdct, sn, sub, ab, col, dd, k0, k1, k2, k3, k5, mN, hC, hN, hni, T⟩ := exc_obj I.kIn q
  refine wpAny_call_exc_subT F T hC hN hni (fun h' e hm => ?_) (Nat.zero_le _)
  exact mk_of I hm r h (I.hok.gone hm.new)
end Ev
end
section
set_option Elab.async false
set_option linter.all false
set_option maxRecDepth 100000
set_option maxHeartbeats 4000000
set_option autoImplicit false
/-! Ev, part B6: sorted. -/
namespace Ev
open PySem PySem.Spec PySem.SeqAt PySem.W PyProof.Rows L2

section
variable {prog : Program} {w : World} {A : Around} {E : Value → Shared → Prop} {s : Shared}
theorem call_tuple_lt {Q : Value → Shared → Prop} {l b : Addr} {items items2 : Array Value} {e r : Nat → Bool} (hl : s.heap.IsTuple l items) (hb : s.heap.IsTuple b items2)
    (he : ∀ j (h1 : j < items.size) (h2 : j < items2.size), EqAt A.in1 s items[j] items2[j] (e j)) (hr : ∀ j (h1 : j < items.size) (h2 : j < items2.size), e j = false → RcLt A.in1 s items[j] items2[j] (r j))
    (h : Q (.bool (firstLt e r (decide (items.size < items2.size)) (List.range (min items.size items2.size)))) s) : wpAny (model prog w) A (call (.builtin "tuple.__lt__") [.ref l, .ref b]) Q E s := by
  obtain ⟨⟨cls, dd, data, sl⟩, ho, hc, n, hd⟩ := id hl
  obtain ⟨⟨cls2, dd2, data2, sl2⟩, ho2, hc2, n2, hd2⟩ := id hb
  simp only at hc hd hc2 hd2
  subst hc hd hc2 hd2
  exact call_meets F.slot_tuple_lt ⟨_, ho, rfl⟩ F.entry_tuple_lt (F.args_tuple_lt_2 _ _) (tuple_ltAt l b items items2 n n2 dd dd2 sl sl2 e r) ⟨ho, ho2, he, hr, h⟩
theorem oneLt_tuples {xs ys : List PyData} {a b : Value} {as bs : List Addr} {Q : Bool → Shared → Prop} (ra : Reads s.heap a (.tuple xs) as) (rb : Reads s.heap b (.tuple ys) bs) (hal : alikeAll xs ys = true)
    (hu : A.units + min (PyData.tuple xs).depth (PyData.tuple ys).depth < cLine) (hq : Q (dataLt (.tuple xs) (.tuple ys)) s) : wpAny (model prog w) A (oneLt' true a b) Q E s := by
  cases ra with
  | @tuple l o vs n _ as₁ h1 h2 h3 h4 =>
    cases rb with
    | @tuple l' o' vs' n' _ bs₁ k1 k2 k3 k4 =>
      have n1 : vs.size = xs.length := by simpa using ReadsAll.length _ _ _ h4
      have n2 : vs'.size = ys.length := by simpa using ReadsAll.length _ _ _ k4
      rw [dataLt_tuple, ← firstLt_toks xs ys hal, ← n1, ← n2] at hq
      rw [oneLt'_eq]
      simp only [if_true]
      refine wpAny_bind (wpAny_cRoomFor (room_here hu) ?_)
      refine wpAny_bind (wpAny_callSpecialIfBound?_slot (T := "tuple") ⟨_, h1, h2⟩ F.slot_tuple_lt (call_tuple_lt (e := pairEq xs ys) (r := fun j => dataLt (xs.getD j .none) (ys.getD j .none)) ⟨_, h1, h2, _, h3⟩ ⟨_, k1, k2, _, k3⟩ (fun j j1 j2 => ?_) (fun j j1 j2 hj => ?_) ?_))
      · have := eqAt_alikeAll xs ys A.in1 s vs.toList vs'.toList _ _ h4 k4 hal (room_in hu) j (by simpa using j1) (by simpa using j2)
        simpa using this
      · have := rcLt_alikeAll xs ys A.in1 s vs.toList vs'.toList _ _ h4 k4 hal (room_in hu) j (by simpa using j1) (by simpa using j2) hj
        simpa using this
      · exact wpAny_truthy_bool hq
theorem mapM_fn {M : Model} {α β : Type} {f : α → Sem β} {r : α → β} : ∀ (l : List α) {Q : List β → Shared → Prop}, (∀ v ∈ l, ∀ (Q' : β → Shared → Prop), Q' (r v) s → wpAny M A (f v) Q' E s) → Q (l.map r) s → wpAny M A (l.mapM f) Q E s
  | [], _, _, h => by rw [List.mapM_nil]; exact wpAny_pure h
  | x :: l, Q, hf, h => by
    rw [List.mapM_cons]
    exact wpAny_bind (hf x (.head _) _ (wpAny_bind (mapM_fn l (Q := fun bs s' => wpAny M A (pure (r x :: bs)) Q E s') (fun v hv => hf v (.tail _ hv)) (wpAny_pure h))))
/-- all are tuples, the first one empty -/
def Tup0 (ds : List PyData) : Prop := ds.head? = some (.tuple []) ∧ ∀ d ∈ ds, ∃ xs, d = .tuple xs
theorem reads_tup {h : Heap} {v : Value} {xs : List PyData} {as : List Addr} (r : Reads h v (.tuple xs) as) : ∃ (a : Addr) (o : Obj) (vs : Array Value) (n : Nat), v = .ref a ∧ h.get? a = some o ∧ o.cls = .type "tuple" ∧ o.data = .seq vs n ∧ vs.size = xs.length := by
  cases r with
  | @tuple l o vs n _ as₁ h1 h2 h3 h4 => exact ⟨l, o, vs, n, rfl, h1, h2, h3, by simpa using ReadsAll.length _ _ _ h4⟩
theorem sorts0 {vs : List Value} {ds : List PyData} (e : EachIs (fun v d => ∃ as, Reads s.heap v d as) vs ds) (hal : AllAlike ds) (hk : Tup0 ds) (hu : ∀ d, d ∈ ds → A.units + d.depth < cLine) : SortsAt prog w A s (dataKind s.heap ds) vs := by
  have room : ∀ {d d' : PyData}, d ∈ ds → A.units + min d.depth d'.depth < cLine := fun {d d'} hd => Nat.lt_of_le_of_lt (Nat.add_le_add_left (Nat.min_le_left _ _) _) (hu d hd)
  refine ⟨fun v hv => ?_, oneType', ?_, fun h2 E Q hq => ?_⟩
  · obtain ⟨d, hd, as, r⟩ := e.left v hv
    exact ⟨_, dataKind_some hal hd r⟩
  · intro E x y a b Q ha hb hq
    obtain ⟨d, as, hd, ra, rfl⟩ := dataKind_inv ha
    obtain ⟨d', as', hd', rb, rfl⟩ := dataKind_inv hb
    rw [keyLt'_oneType]
    obtain ⟨xs, rfl⟩ := hk.2 d hd
    obtain ⟨ys, rfl⟩ := hk.2 d' hd'
    exact oneLt_tuples ra rb (by simpa [alike] using hal _ hd _ hd') (room hd) hq
  · cases e with
    | nil => exact absurd h2 (by simp)
    | @cons v d vr dr h1 t =>
      have hd0 : d = .tuple [] := by have := hk.1; simpa using this
      subst hd0
      have tup : ∀ u ∈ v :: vr, ∃ (a : Addr) (o : Obj) (us : Array Value) (n : Nat), u = .ref a ∧ s.heap.get? a = some o ∧ o.cls = .type "tuple" ∧ o.data = .seq us n := fun u hu => by
        obtain ⟨d, hd, as, r⟩ := (EachIs.cons h1 t).left u hu
        obtain ⟨xs, rfl⟩ := hk.2 d hd
        obtain ⟨a, o, us, n, q1, q2, q3, q4, _⟩ := reads_tup r
        exact ⟨a, o, us, n, q1, q2, q3, q4⟩
      have frst : ∀ u ∈ v :: vr, ∃ r : Option Value, ∀ (Q' : Option Value → Shared → Prop), Q' r s → wpAny (model prog w) A (firstOfTuple' u) Q' E s := fun u hu => by
        obtain ⟨a, o, us, n, rfl, q2, q3, q4⟩ := tup u hu
        refine ⟨us[0]?, fun Q' q => ?_⟩
        rw [kas_first_eq]
        refine wpAny_bind (Looks.here (show Looks (model prog w) s.heap (typeOf (.ref a)) o.cls from (Looks.ld q2).andThen .now) ?_)
        rw [q3, if_neg (by first | decide | simp)]
        exact wpAny_bind (listItems_at q2 q4 (wpAny_pure q))
      have frst0 : ∀ (Q' : Option Value → Shared → Prop), Q' none s → wpAny (model prog w) A (firstOfTuple' v) Q' E s := fun Q' q => by
        obtain ⟨as, r⟩ := h1
        obtain ⟨a, o, us, n, rfl, q2, q3, q4, q5⟩ := reads_tup r
        rw [kas_first_eq]
        refine wpAny_bind (Looks.here (show Looks (model prog w) s.heap (typeOf (.ref a)) o.cls from (Looks.ld q2).andThen .now) ?_)
        rw [q3, if_neg (by first | decide | simp)]
        refine wpAny_bind (listItems_at q2 q4 (wpAny_pure ?_))
        have z : us.size = 0 := q5
        have : us[0]? = none := Array.getElem?_eq_none (Nat.le_of_eq z)
        rw [this]; exact q
      classical
      let r : Value → Option Value := fun u => if u = v then none else if h : u ∈ v :: vr then Classical.choose (frst u h) else none
      have hr : ∀ u ∈ v :: vr, ∀ (Q' : Option Value → Shared → Prop), Q' (r u) s → wpAny (model prog w) A (firstOfTuple' u) Q' E s := fun u hu Q' q => by
        by_cases e : u = v
        · subst e
          have : r u = none := if_pos rfl
          rw [this] at q
          exact frst0 Q' q
        · have : r u = Classical.choose (frst u hu) := (if_neg e).trans (dif_pos hu)
          rw [this] at q
          exact Classical.choose_spec (frst u hu) Q' q
      rw [keyKind'_eq, List.mapM_toArray, map_eq_pure_bind]
      refine wpAny_bind (wpAny_bind (mapM_fn (r := r) _ hr (wpAny_pure ?_)))
      have hv0 : r v = none := if_pos rfl
      have f0 : (List.map r (v :: vr)).toArray[0]? = some none := by simp [hv0]
      rw [if_neg (by simp [hv0]), if_neg (by rw [f0]; simp)]
      rw [oneTypeOnly'_eq, List.mapM_toArray, map_eq_pure_bind]
      have hT : ∀ u ∈ v :: vr, ∀ (Q' : Value → Shared → Prop), Q' (Value.type "tuple") s → wpAny (model prog w) A (typeOf u) Q' E s := fun u hu Q' q => by
        obtain ⟨a, o, us, n, rfl, q2, q3, q4⟩ := tup u hu
        exact Looks.here (show Looks (model prog w) s.heap (typeOf (.ref a)) (Value.type "tuple") from q3 ▸ (Looks.ld q2).andThen .now) q
      refine wpAny_bind (wpAny_bind (wpAny_bind (kas_mapM (r := Value.type "tuple") _ hT (wpAny_pure ?_))))
      have hall : ((List.map (fun _ => Value.type "tuple") (v :: vr)).toArray.all fun x => x == Value.type "tuple") = true := by
        simp only [List.all_toArray, List.all_map, List.all_eq_true]
        intro _ _
        exact beq_self_eq_true _
      have h0 : (List.map (fun _ => Value.type "tuple") (v :: vr)).toArray[0]? = some (Value.type "tuple") := by simp
      rw [h0]
      simp only [hall, if_true]
      exact wpAny_pure (wpAny_pure hq)
end

/-! ### sorted(xs), by value -/
def leD (x y : D) : Bool := dataLe false pyD x y
def isTupB : PyData → Bool
  | .tuple _ => true
  | _ => false
def neTupB : PyData → Bool
  | .tuple (_ :: _) => true
  | _ => false
def othB : PyData → Bool
  | .tuple _ => false
  | .none => false
  | _ => true
def srtB (ds : List D) : Bool := ds.all (fun d => shD d) && (ds.all fun d => ds.all fun e => alike (pyD d) (pyD e)) &&
  ((ds.all fun d => neTupB (pyD d)) || (ds.all fun d => othB (pyD d)) || ((match ds with
    | d :: _ => (match pyD d with
      | .tuple [] => true
      | _ => false)
    | [] => true) && ds.all fun d => isTupB (pyD d)))
def sortedD (xs : List D) (S : List O) : R D := match xs with
  | [x] => (match rdL S x with
    | some ds => if srtB ds = true ∧ ds.length ≤ sizeLine then .ok (.lst (ds.mergeSort leD)) S else .bad
    | none => .bad)
  | _ => .bad

theorem leD_eq : dataLe false (fun b : D × V => pyD b.1) = fun x y => leD x.1 y.1 := rfl
theorem merge_map {α β : Type} (f : α → β) (le : β → β → Bool) : ∀ (l : List α), (l.mergeSort fun a b => le (f a) (f b)).map f = (l.map f).mergeSort le := fun l => by
  rw [List.map_mergeSort]
  intro a _ b _
  rfl
theorem each_zip : ∀ {us : List Value} {vs : List V} {ds : List D}, Vals vs us → vs.length = ds.length → EachIs (fun (u : Value) (b : D × V) => RelV b.2 u) us (ds.zip vs)
  | [], [], [], _, _ => .nil
  | _, _, _, .nil, h => by
    cases ‹List D› with
    | nil => exact .nil
    | cons _ _ => cases h
  | _, _, d :: ds, .cons r t, h => .cons r (each_zip t (by simpa using h))
  | _, _, [], .cons _ _, h => by cases h
theorem each_vals : ∀ {us : List Value} {bs : List (D × V)}, EachIs (fun (u : Value) (b : D × V) => RelV b.2 u) us bs → Vals (bs.map (·.2)) us
  | _, _, .nil => .nil
  | _, _, .cons r t => .cons r (each_vals t)
theorem RepL.zip_mem {F : Fx} {μ : Mu} {H : Hp} : ∀ {ds : List D} {vs : List V}, RepL F μ H ds vs → ∀ b ∈ ds.zip vs, Rep F μ H b.1 b.2
  | [], _, h, b, hb => by simp at hb
  | d :: ds, _, h, b, hb => by
    obtain ⟨v, r, rfl, h1, h2⟩ := h
    rcases List.mem_cons.mp (show b ∈ (d, v) :: ds.zip r from hb) with rfl | hb
    · exact h1
    · exact RepL.zip_mem h2 b hb
theorem RepL.of_pairs {F : Fx} {μ : Mu} {H : Hp} : ∀ {bs : List (D × V)}, (∀ b ∈ bs, Rep F μ H b.1 b.2) → RepL F μ H (bs.map (·.1)) (bs.map (·.2))
  | [], _ => rfl
  | b :: bs, h => ⟨b.2, _, rfl, h b List.mem_cons_self, RepL.of_pairs fun c hc => h c (List.mem_cons_of_mem _ hc)⟩
theorem each_reads {h : Heap} : ∀ {us : List Value} {bs : List (D × V)}, EachIs (fun (u : Value) (b : D × V) => RelV b.2 u) us bs → (∀ b ∈ bs, ∀ u, RelV b.2 u → ∃ as, Reads h u (pyD b.1) as) → EachIs (fun u b => ∃ as, Reads h u (pyD b.1) as) us bs
  | _, _, .nil, _ => .nil
  | _, _, .cons r t, k => .cons (k _ List.mem_cons_self _ r) (each_reads t fun b hb => k b (List.mem_cons_of_mem _ hb))
theorem srt_is {ds : List D} (h : srtB ds = true) : (∀ d ∈ ds, shD d = true) ∧ AllAlike (ds.map pyD) ∧ (Sortable (ds.map pyD) ∨ Tup0 (ds.map pyD)) := by
  obtain ⟨h, h1⟩ := Bool.and_eq_true_iff.mp h
  obtain ⟨h2, h3⟩ := Bool.and_eq_true_iff.mp h
  refine ⟨fun d hd => List.all_eq_true.mp h2 d hd, fun x hx y hy => ?_, ?_⟩
  · obtain ⟨a, ha, rfl⟩ := List.mem_map.mp hx
    obtain ⟨b, hb, rfl⟩ := List.mem_map.mp hy
    exact List.all_eq_true.mp (List.all_eq_true.mp h3 a ha) b hb
  · rcases Bool.or_eq_true_iff.mp h1 with h1 | h1
    · rcases Bool.or_eq_true_iff.mp h1 with h1 | h1
      · refine .inl (.inl fun x hx => ?_)
        obtain ⟨a, ha, rfl⟩ := List.mem_map.mp hx
        have q := List.all_eq_true.mp h1 a ha
        unfold neTupB at q
        split at q
        · rename_i x r e; exact ⟨x, r, e⟩
        · cases q
      · refine .inl (.inr fun x hx => ?_)
        obtain ⟨a, ha, rfl⟩ := List.mem_map.mp hx
        have q := List.all_eq_true.mp h1 a ha
        exact ⟨fun e => (by rw [e] at q; cases q), fun xs e => (by rw [e] at q; cases q)⟩
    · obtain ⟨k1, k2⟩ := Bool.and_eq_true_iff.mp h1
      cases ds with
      | nil => exact .inl (.inl fun x hx => by simp at hx)
      | cons d ds =>
        refine .inr ⟨?_, fun x hx => ?_⟩
        · dsimp only at k1
          split at k1
          · rename_i e; show some (pyD d) = _; rw [e]
          · cases k1
        · obtain ⟨a, ha, rfl⟩ := List.mem_map.mp hx
          have q := List.all_eq_true.mp k2 a ha
          unfold isTupB at q
          split at q
          · rename_i xs e; exact ⟨xs, e⟩
          · cases q
theorem cl_sorted {X : Cx} {F : Fx} (hk : F.K = X.K) (hu : X.A.units + 64 < cLine) : CallR X (.builtin "sorted") (rPn F sortedD) := by
  intro pins s σ H xs us Q I rs h
  obtain ⟨μ, S, ds, rel, hd, p⟩ := h
  unfold sortedD at p
  split at p
  · rename_i x
    obtain ⟨v, rfl, hx⟩ := repL1 hd
    split at p
    · rename_i ds he
      split at p
      · rename_i hc
        obtain ⟨a, vs, rfl, q, r⟩ := rdL_rep rel hx he
        obtain rfl := Vals.ref1 rs
        obtain ⟨its, rv, hl, _⟩ := I.list (hk ▸ q)
        obtain ⟨s1, s2, s3⟩ := srt_is hc.1
        have el := each_zip rv r.length
        have em : (ds.zip vs).map (fun b => pyD b.1) = ds.map pyD := by
          have : (ds.zip vs).map (·.1) = ds := by rw [List.map_fst_zip]; rw [r.length]; exact Nat.le_refl _
          conv => rhs; rw [← this, List.map_map]
          rfl
        have mem1 : ∀ b ∈ ds.zip vs, b.1 ∈ ds := fun b hb => (List.of_mem_zip hb).1
        have er : ∀ h' : Heap, (∀ b o, s.heap.get? b = some o → h'.get? b = some o) → EachIs (fun u (b : D × V) => ∃ as, Reads h' u (pyD b.1) as) its (ds.zip vs) := fun h' k => each_reads el fun b hb u ru => by
          have sh := s1 b.1 (mem1 b hb)
          obtain ⟨as, ra⟩ := Dp.reads I _ _ u (hk ▸ Rep.dp b.1 b.2 (Bool.and_eq_true_iff.mp sh).1 (RepL.zip_mem r b hb)) ru
          exact ⟨as, PyProof.Rows.Reads.keeps k ra⟩
        have er' := er (sortingHeap (copyHeap s.heap its) (s.heap.objs.size + 1) its) fun _ _ => sorting_copy_old
        have hal : AllAlike ((ds.zip vs).map fun b => pyD b.1) := by rw [em]; exact s2
        have dep : ∀ d, d ∈ (ds.zip vs).map (fun b => pyD b.1) → X.A.in1.in1.units + d.depth < cLine := fun d hd => by
          rw [em] at hd
          obtain ⟨z, hz, rfl⟩ := List.mem_map.mp hd
          have := of_decide_eq_true (Bool.and_eq_true_iff.mp (s1 z hz)).2
          show X.A.units + 1 + 1 + _ < _
          omega
        have srt : SortsAt X.prog X.w X.A.in1.in1 { s with heap := sortingHeap (copyHeap s.heap its) (s.heap.objs.size + 1) its } (dataKind (sortingHeap (copyHeap s.heap its) (s.heap.objs.size + 1) its) ((ds.zip vs).map fun b => pyD b.1)) its := by
          have e1 := each_map (R := fun v d => ∃ as, Reads (sortingHeap (copyHeap s.heap its) (s.heap.objs.size + 1) its) v d as) (fun b : D × V => pyD b.1) er'
          rcases s3 with s3 | s3
          · exact SortsAt.data (s := { s with heap := sortingHeap (copyHeap s.heap its) (s.heap.objs.size + 1) its }) e1 hal (by rw [em]; exact s3) dep
          · exact sorts0 (s := { s with heap := sortingHeap (copyHeap s.heap its) (s.heap.objs.size + 1) its }) e1 hal (by rw [em]; exact s3) dep
        have hln : its.length = ds.length := by rw [← rv.length, r.length]
        refine sorted_vals hl.isList srt (by rw [hln]; exact hc.2) ?_
        have eo := sortVals_data (R := fun (u : Value) (b : D × V) => RelV b.2 u) (enc := fun b : D × V => pyD b.1) false el er' hal
        rw [leD_eq] at eo
        generalize sortVals (dataKind (sortingHeap (copyHeap s.heap its) (s.heap.objs.size + 1) its) ((ds.zip vs).map fun b => pyD b.1)) false its its = out at eo
        generalize hbs : (ds.zip vs).mergeSort (fun x y => leD x.1 y.1) = bs at eo
        have hperm : bs.Perm (ds.zip vs) := hbs ▸ List.mergeSort_perm _ _
        have hb1 : bs.map (·.1) = ds.mergeSort leD := by
          rw [← hbs, merge_map (fun b : D × V => b.1) leD]
          rw [List.map_fst_zip]
          rw [r.length]; exact Nat.le_refl _
        obtain ⟨ep, he'⟩ := PyProof.Rows.sortedAll_at s.heap its out.toArray
        have hfr : H (s.heap.objs.size + 1) = none := I.hok.fresh (Nat.le_succ _)
        have hr : RepL F μ H (ds.mergeSort leD) (bs.map (·.2)) := by
          rw [← hb1]
          exact RepL.of_pairs fun b hb => RepL.zip_mem r b (hperm.mem_iff.mp hb)
        refine ⟨.ref _, upd H (s.heap.objs.size + 1) (.lst (bs.map (·.2))), I.laid (t' := s.toks) (fun _ _ => PyProof.Rows.sortedAll_old) (Nat.le_succ _) ⟨?_, out, ep, each_vals eo, by simpa using he'⟩, rfl, P1.lst p rel hr _ hfr⟩
        rw [List.length_map, hperm.length_eq, List.length_zip, r.length, Nat.min_self]; exact hc.2
      · exact p.elim
    · exact p.elim
  · exact p.elim
end Ev
end
section
set_option Elab.async false
set_option linter.all false
set_option maxRecDepth 100000
set_option maxHeartbeats 4000000
set_option autoImplicit false
/-! Ev, part D: the small language and its evaluator. -/
namespace Ev
open PySem PySem.Spec PyProof.Rows L2

/-- a class as isinstance names it -/
inductive TyC where
  | int | bool | str | list | tuple | dict | own (c : Nat) | value
  deriving DecidableEq

mutual
inductive E where
  | non | bl (b : Bool) | int (i : Int) | str (cs : List Nat)
  | var (i : Nat) | glb (g : Nat)
  | bin (o : Operator) (a b : E) | neg (a : E) | nt (a : E) | and (a b : E) | or (a b : E)
  | cmp (o : CmpOp) (a b : E) | chain (o o' : CmpOp) (a b c : E) | ite (c a b : E)
  | tup (es : Es) | lst (es : Es) | emp (t : Bool) | flst (es : Es) | femp (t : Bool)
  | idx (a i : E) | slc (a : E) (lo hi : OE) | attr (a : E) (f : Nat)
  | call (f : Nat) (es : Es) | make (c : Nat) (es : Es) | bi (b : BI) (es : Es)
  | meth (m : MT) (o : E) (es : Es) | omth (m : Nat) (o : E) (es : Es)
  | isi (a : E) (ts : List TyC) | xf (f : Nat) | xis (t : TyC)
  | lc (elt : E) (t : T) (it : I) (c : OE) (vs : List Nat)
  | lc2 (elt : E) (t : T) (it : I) (t1 : T) (it1 : I) (vs vs1 : List Nat)
  | frz (a : E)
inductive Es where
  | nil | cons (e : E) (r : Es)
inductive OE where
  | no | yes (e : E)
inductive I where
  | of (e : E) | rng (a : E) | rng2 (a b : E) | zip (a b : E) | enm (a : E)
inductive T where
  | nm (i : Nat) | tup (ts : Ts)
inductive Ts where
  | nil | cons (t : T) (r : Ts)
end
mutual
inductive S where
  | pass | doc | ret (e : E) | retN | exp (e : E)
  | asg (t : T) (e : E) | asgL (z : Bool) (i : Nat) (elt : E) (t : T) (it : I) (c : OE) (vs : List Nat)
  | asgL2 (z : Bool) (i : Nat) (elt : E) (t : T) (it : I) (t1 : T) (it1 : I) (vs vs1 : List Nat)
  | par (i j : Nat) (a b : E)
  | asgI (o i e : E) | asgF (o : E) (f : Nat) (e : E) | aug (i : Nat) (op : Operator) (e : E)
  | ife (c : E) (a b : Ss) | wh (c : E) (b : Ss) | fr (t : T) (it : I) (b : Ss)
  | rse (c : Nat) (es : Es) | tri (b : Ss) (hs : Hs)
inductive Ss where
  | nil | cons (s : S) (r : Ss)
inductive Hs where
  | nil | cons (t : TyC) (n : Option Nat) (b : Ss) (r : Hs)
end

abbrev Env' := List (Option D)
abbrev Orc := Nat → List D → List O → R D

/-- the law's tables -/
structure Df where
  np : Nat
  nn : Nat
  raw : Bool
  body : Ss
structure Ct where
  glb : Nat → D
  /-- own class c is a subclass of c' -/
  sub : Nat → Nat → Bool
  /-- .. of ValueError -/
  val : Nat → Bool
  /-- c is a class of instances; of exceptions -/
  icl : Nat → Bool
  exc : Nat → Bool
  /-- may be read, written at instances of c -/
  fld : Nat → Nat → Bool
  mth : Nat → Nat → Option Nat
  ini : Nat → Option Nat
  /-- the fields that an exception's own __init__ sets, by its parameters -/
  xfs : Nat → List Nat
  defs : Nat → Option Df

def R.prim {α : Type} : R α → R α
  | .ok a S => .ok a S
  | _ => .bad
def R.map {α β : Type} (f : α → β) : R α → R β
  | .ok a S => .ok (f a) S
  | .ex x S => .ex x S
  | .bad => .bad
def noR : OE → Bool
  | .no => true
  | _ => false

/-! ### values -/
def lookF : List Nat → List D → Nat → Option D
  | f :: fs, d :: ds, g => if f = g then some d else lookF fs ds g
  | _, _, _ => none
def putD : List Nat → List D → Nat → D → List Nat × List D
  | f :: fs, d :: ds, g, x => if f = g then (f :: fs, x :: ds) else ((f :: (putD fs ds g x).1), d :: (putD fs ds g x).2)
  | fs, ds, g, x => ([g], [x])
def insOf (S : List O) : D → Option (Nat × List Nat × List D)
  | .ins C fs vs => some (C, fs, vs)
  | .ref n => (match S[n]? with
    | some (.ins C fs vs) => some (C, fs, vs)
    | _ => none)
  | _ => none
def attrD (t : Ct) (x : D) (f : Nat) (S : List O) : R D := match insOf S x with
  | some (C, fs, vs) => (match lookF fs vs f with
    | some d => if t.fld C f = true then .ok d S else .bad
    | none => .bad)
  | none => .bad
/-- o.f = d -/
def setF (t : Ct) (o : D) (f : Nat) (d : D) (S : List O) : R Unit := match o with
  | .ref n => (match S[n]? with
    | some (.ins C fs vs) => if t.fld C f = true ∧ fs.length < 1000 then .ok () (S.set n (.ins C (putD fs vs f d).1 (putD fs vs f d).2)) else .bad
    | _ => .bad)
  | _ => .bad
/-- a value's type -/
inductive TN where
  | non | bl | int | str | tup | lst | dct | ins (C : Nat)
  deriving DecidableEq
@[simp] def tyN (S : List O) : D → Option TN
  | .non => some .non
  | .bl _ => some .bl
  | .int _ => some .int
  | .str _ => some .str
  | .tup _ => some .tup
  | .ft _ => some .tup
  | .lst _ => some .lst
  | .fl _ => some .lst
  | .dk _ _ => some .dct
  | .dt _ _ => some .dct
  | .ins C _ _ => some (.ins C)
  | .ref n => (match S[n]? with
    | some (.lst _) => some .lst
    | some (.dK _ _) => some .dct
    | some (.dT _ _) => some .dct
    | some (.ins C _ _) => some (.ins C)
    | none => none)
  | .cls _ => none
/-- is a value of that type of the class T -/
@[simp] def kitD (t : Ct) : TN → TyC → Option Bool
  | _, .value => none
  | .int, .int => some true
  | .bl, .int => some true
  | .bl, .bool => some true
  | .str, .str => some true
  | .tup, .tuple => some true
  | .lst, .list => some true
  | .dct, .dict => some true
  | .ins C, .own c => if t.icl C = true ∧ t.icl c = true then some (t.sub C c) else none
  | .ins C, _ => if t.icl C = true then some false else none
  | _, .own c => if t.icl c = true then some false else none
  | _, _ => some false
@[simp] def isi1 (t : Ct) (S : List O) (x : D) (T : TyC) : Option Bool := (tyN S x).bind fun n => kitD t n T
@[simp] def isiD (t : Ct) (x : D) (S : List O) : List TyC → R D
  | [] => .ok (.bl false) S
  | T :: Ts => (match isi1 t S x T with
    | some true => .ok (.bl true) S
    | some false => isiD t x S Ts
    | none => .bad)
/-- is the exception of the class T -/
def xisB (t : Ct) (x : Exn) : TyC → Option Bool
  | .own c => if t.exc x.c = true ∧ t.exc c = true then some (t.sub x.c c) else none
  | .value => if t.exc x.c = true then some (t.val x.c) else none
  | _ => none
@[simp] def biD : BI → List D → List O → R D
  | .len => lenD
  | .abs => absD
  | .int => intD
  | .tuple => tupleD
  | .list => listD
  | .all => allD
  | .any => anyD
  | .sum => sumD
  | .max => maxD
  | .min => minD
  | .str => strD
  | .sorted => sortedD
  | _ => fun _ _ => .bad
@[simp] def negD (x : D) (S : List O) : R D := match x with
  | .int i => .ok (.int (-i)) S
  | _ => .bad
@[simp] def ntD (x : D) (S : List O) : R D := match x with
  | .bl b => .ok (.bl (!b)) S
  | _ => .bad
@[simp] def tstD (x : D) (S : List O) : R Bool := match truthD x S with
  | some b => .ok b S
  | none => .bad
@[simp] def optI (x : D) (S : List O) : R (Option Int) := match x with
  | .int i => .ok (some i) S
  | _ => .bad

/-! ### what is walked: its items, the stored lists that must stay -/
structure Src where
  its : List D
  gd : List (Nat × List D)
def gdOk (S : List O) : List (Nat × List D) → Prop
  | [] => True
  | g :: r => (match S[g.1]? with
    | some (.lst ds) => ds = g.2
    | _ => False) ∧ gdOk S r
def srcOf (S : List O) : D → Option Src
  | .str cs => some ⟨cs.map fun c => .str [c], []⟩
  | .ref n => (match S[n]? with
    | some (.lst ds) => some ⟨ds, [(n, ds)]⟩
    | _ => none)
  | d => (seqOf S d).map fun ds => ⟨ds, []⟩
def zipS (a b : Src) : Src := ⟨(a.its.zip b.its).map fun p => .tup [p.1, p.2], a.gd ++ b.gd⟩
def enmL : Nat → List D → List D
  | _, [] => []
  | i, d :: ds => .tup [.int (i : Nat), d] :: enmL (i + 1) ds
def enmS (a : Src) : Src := ⟨enmL 0 a.its, a.gd⟩
def rngL (lo : Int) : Nat → List D
  | 0 => []
  | n + 1 => .int lo :: rngL (lo + 1) n
def inR (i : Int) : Prop := i.natAbs < 4611686018427387904
instance (i : Int) : Decidable (inR i) := by unfold inR; infer_instance
theorem inR_b {i : Int} (h : inR i) : -(2 ^ 62) ≤ i ∧ i < 2 ^ 62 := by unfold inR at h; omega
def ofS (x : D) (S : List O) : R Src := match srcOf S x with
  | some s => .ok s S
  | none => .bad
def rngS (x y : D) (S : List O) : R Src := match x, y with
  | .int i, .int j => if inR i ∧ inR j then .ok ⟨rngL i (j - i).toNat, []⟩ S else .bad
  | _, _ => .bad

/-! ### targets -/
mutual
@[simp] def asT : T → D → Env' → Option Env'
  | .nm i, d, ρ => some (ρ.set i (some d))
  | .tup ts, d, ρ => (match d with
    | .tup ds => asTs ts ds ρ
    | .ft ds => asTs ts ds ρ
    | _ => none)
@[simp] def asTs : Ts → List D → Env' → Option Env'
  | .nil, [], ρ => some ρ
  | .cons t r, d :: ds, ρ => (asT t d ρ).bind fun ρ' => asTs r ds ρ'
  | _, _, _ => none
end
@[simp] def wipeD (ρ : Env') : List Nat → Env'
  | [] => ρ
  | v :: vs => (wipeD ρ vs).set v none

/-! ### the things made on the way, told by value -/
mutual
def clD (n0 : Nat) : D → Bool
  | .tup ds | .lst ds | .fl ds | .ft ds | .dk _ ds | .dt _ ds | .ins _ _ ds => clL n0 ds
  | .ref n => decide (n < n0)
  | _ => true
def clL (n0 : Nat) : List D → Bool
  | [] => true
  | d :: ds => clD n0 d && clL n0 ds
end
mutual
def frzD (g : Nat → Option D) : D → Option D
  | .tup ds => (frzL g ds).map .tup
  | .lst ds => (frzL g ds).map .lst
  | .fl ds => (frzL g ds).map .fl
  | .ft ds => (frzL g ds).map .ft
  | .dk ks ds => (frzL g ds).map (.dk ks)
  | .dt ks ds => (frzL g ds).map (.dt ks)
  | .ins C fs ds => (frzL g ds).map (.ins C fs)
  | .ref n => g n
  | d => some d
def frzL (g : Nat → Option D) : List D → Option (List D)
  | [] => some []
  | d :: ds => (frzD g d).bind fun d' => (frzL g ds).map (d' :: ·)
end
def frzN (n0 : Nat) (S : List O) : Nat → Nat → Option D
  | 0, n => if n < n0 then some (.ref n) else none
  | k + 1, n => if n < n0 then some (.ref n) else match S[n]? with
    | some (.lst ds) => (frzL (frzN n0 S k) ds).map .lst
    | some (.dK ks ds) => (frzL (frzN n0 S k) ds).map (.dk ks)
    | some (.dT ks ds) => (frzL (frzN n0 S k) ds).map (.dt ks)
    | some (.ins C fs ds) => (frzL (frzN n0 S k) ds).map (.ins C fs)
    | none => none
def clO (n0 : Nat) : O → Bool
  | .lst ds | .dK _ ds | .dT _ ds | .ins _ _ ds => clL n0 ds
/-- the objects of the entry do not hold later ones -/
def gcOk (S S' : List O) : Prop := S.length ≤ S'.length ∧ ∀ n, n < S.length → S'[n]? = S[n]? ∨ ∃ o, S'[n]? = some o ∧ clO S.length o = true
open Classical in
/-- at the end of a call, of a display: what was made is told by value -/
noncomputable def gcR (S : List O) : R D → R D
  | .ok d S' => if gcOk S S' then (match frzD (frzN S.length S' 6) d with
    | some d' => .ok d' (S'.take S.length)
    | none => .bad) else .bad
  | .ex x S' => if gcOk S S' then (match frzL (frzN S.length S' 6) x.vs with
    | some vs => .ex ⟨x.c, x.fs, vs⟩ (S'.take S.length)
    | none => .bad) else .bad
  | .bad => .bad

@[simp] noncomputable def gcB (z : Bool) (S : List O) (r : R D) : R D := if z = true then gcR S r else r
open Classical in
/-- the turns of a comprehension: the list at n grows -/
noncomputable def lcGo (n : Nat) (gd : List (Nat × List D)) (f : D → List O → R (Option D)) : List D → List O → R Unit
  | [], S => if gdOk S gd then .ok () S else .bad
  | d :: ds, S => if gdOk S gd then (match f d S with
    | .ok none S' => lcGo n gd f ds S'
    | .ok (some x) S' => (match S'[n]? with
      | some (.lst acc) => if acc.length < sizeLine then lcGo n gd f ds (S'.set n (.lst (acc ++ [x]))) else .bad
      | _ => .bad)
    | _ => .bad) else .bad
open Classical in
noncomputable def lc2Go (gd : List (Nat × List D)) (f : D → List O → R Unit) : List D → List O → R Unit
  | [], S => if gdOk S gd then .ok () S else .bad
  | d :: ds, S => if gdOk S gd then (match f d S with
    | .ok _ S' => lc2Go gd f ds S'
    | _ => .bad) else .bad

def augD : Operator → Int → D → Option Int
  | .Add, a, .int b => some (a + b)
  | .Sub, a, .int b => some (a - b)
  | _, _, _ => none
inductive Fl where
  | nx (ρ : Env') (S : List O) | rt (d : D) (S : List O) | ex (x : Exn) (ρ : Env') (S : List O) | bad
def R.fl {α : Type} (r : R α) (ρ : Env') (k : α → List O → Fl) : Fl := match r with
  | .ok a S => k a S
  | .ex x S => .ex x ρ S
  | .bad => .bad
/-- nothing may be raised -/
def Fl.nox : Fl → Fl
  | .ex _ _ _ => .bad
  | f => f
def Fl.bind (f : Fl) (k : Env' → List O → Fl) : Fl := match f with
  | .nx ρ S => k ρ S
  | f => f
open Classical in
noncomputable def frGo (gd : List (Nat × List D)) (t : T) (b : Env' → List O → Fl) : List D → Env' → List O → Fl
  | [], ρ, S => if gdOk S gd then .nx ρ S else .bad
  | d :: ds, ρ, S => if gdOk S gd then (match asT t d ρ with
    | some ρ' => (b ρ' S).bind fun ρ'' S' => frGo gd t b ds ρ'' S'
    | none => .bad) else .bad
def whF (c : Env' → List O → R Bool) (b : Env' → List O → Fl) : Nat → Env' → List O → Option Fl
  | 0, _, _ => none
  | n + 1, ρ, S => match c ρ S with
    | .ok true S' => (match b ρ S' with
      | .nx ρ' S'' => whF c b n ρ' S''
      | f => some f)
    | .ok false S' => some (.nx ρ S')
    | .ex x S' => some (.ex x ρ S')
    | .bad => some .bad
open Classical in
noncomputable def whC (c : Env' → List O → R Bool) (b : Env' → List O → Fl) (ρ : Env') (S : List O) : Fl :=
  if h : ∃ n f, whF c b n ρ S = some f then Classical.choose (Classical.choose_spec h) else .bad

section
variable (t : Ct) (C : Orc) (hx : Option Exn)
mutual
noncomputable def evE : E → Env' → List O → R D
  | .non, _, S => .ok .non S
  | .bl b, _, S => .ok (.bl b) S
  | .int i, _, S => .ok (.int i) S
  | .str cs, _, S => .ok (.str cs) S
  | .var i, ρ, S => (match ρ[i]? with
    | some (some d) => .ok d S
    | _ => .bad)
  | .glb g, _, S => .ok (t.glb g) S
  | .bin o a b, ρ, S => (evE a ρ S).bind fun x S => (evE b ρ S).bind fun y S => (binD o x y S).prim
  | .neg a, ρ, S => (evE a ρ S).bind fun x S => (negD x S).prim
  | .nt a, ρ, S => (evE a ρ S).bind fun x S => (ntD x S).prim
  | .and a b, ρ, S => (evE a ρ S).bind fun x S => (match x with
    | .bl true => evE b ρ S
    | .bl false => .ok (.bl false) S
    | _ => .bad)
  | .or a b, ρ, S => (evE a ρ S).bind fun x S => (match x with
    | .bl true => .ok (.bl true) S
    | .bl false => evE b ρ S
    | _ => .bad)
  | .cmp o a b, ρ, S => (evE a ρ S).bind fun x S => (evE b ρ S).bind fun y S => (cmpD o x y S).prim
  | .chain o o' a b c, ρ, S => (evE a ρ S).bind fun x S => (evE b ρ S).bind fun y S => (cmpD o x y S).prim.bind fun z S => (match z with
    | .bl true => (evE c ρ S).bind fun w S => (cmpD o' y w S).prim
    | .bl false => .ok (.bl false) S
    | _ => .bad)
  | .ite c a b, ρ, S => (evE c ρ S).bind fun x S => (tstD x S).bind fun k S => if k = true then evE a ρ S else evE b ρ S
  | .tup es, ρ, S => (evEs es ρ S).bind fun ds S => if ds.length ≤ sizeLine then .ok (.tup ds) S else .bad
  | .lst es, ρ, S => (evEs es ρ S).bind fun ds S => if ds.length ≤ sizeLine then .ok (.ref S.length) (S ++ [.lst ds]) else .bad
  | .emp k, _, S => .ok (.ref S.length) (S ++ [if k = true then .dT [] [] else .dK [] []])
  | .flst es, ρ, S => (evEs es ρ S).bind fun ds S => if ds.length ≤ sizeLine then .ok (.lst ds) S else .bad
  | .femp k, _, S => .ok (if k = true then .dt [] [] else .dk [] []) S
  | .idx a i, ρ, S => (evE a ρ S).bind fun x S => (evE i ρ S).bind fun y S => (idxD x y S).prim
  | .slc a lo hi, ρ, S => (evE a ρ S).bind fun x S => (evO lo ρ S).bind fun l S => (evO hi ρ S).bind fun h S => (sliceD x l h S).prim
  | .attr a f, ρ, S => (evE a ρ S).bind fun x S => attrD t x f S
  | .call f es, ρ, S => (evEs es ρ S).bind fun ds S => C f ds S
  | .make c es, ρ, S => (evEs es ρ S).bind fun ds S => (match t.ini c with
    | some f => (C f (.ref S.length :: ds) (S ++ [.ins c [] []])).bind fun d S' => (match d with
      | .non => .ok (.ref S.length) S'
      | _ => .bad)
    | none => .bad)
  | .bi b es, ρ, S => (evEs es ρ S).bind fun ds S => (biD b ds S).prim
  | .meth m o es, ρ, S => (evE o ρ S).bind fun x S => if m.at S x = true then (evEs es ρ S).bind fun ds S => (methD m x ds S).prim else .bad
  | .omth m o es, ρ, S => (evE o ρ S).bind fun x S => (match insOf S x with
    | some (c, fs, vs) => (match t.mth c m with
      | some f => (evEs es ρ S).bind fun ds S => C f (x :: ds) S
      | none => .bad)
    | none => .bad)
  | .isi a ts, ρ, S => (evE a ρ S).bind fun x S => isiD t x S ts
  | .xf f, _, S => (match hx with
    | some x => (match lookF x.fs x.vs f with
      | some d => if (t.xfs x.c).contains f = true then .ok d S else .bad
      | none => .bad)
    | none => .bad)
  | .xis T, _, S => (match hx with
    | some x => (match xisB t x T with
      | some b => if x.fs = [] then .ok (.bl b) S else .bad
      | none => .bad)
    | none => .bad)
  | .lc elt tg it c vs, ρ, S => (evI it ρ S).bind fun s S => (lcGo S.length s.gd (fun d S' => (match asT tg d (wipeD ρ vs) with
      | some ρ' => (evC c ρ' S').bind fun k S' => if k = true then (evE elt ρ' S').map some else .ok none S'
      | none => .bad)) s.its (S ++ [.lst []])).prim.bind fun _ S' => .ok (.ref S.length) S'
  | .lc2 elt tg it tg1 it1 vs vs1, ρ, S => (evI it ρ S).bind fun s S => (lc2Go s.gd (fun d S' => (match asT tg d (wipeD ρ vs) with
      | some ρ' => (evI it1 ρ' S').bind fun s1 S' => lcGo S.length s1.gd (fun d1 S' => (match asT tg1 d1 (wipeD ρ' vs1) with
        | some ρ'' => (evE elt ρ'' S').map some
        | none => .bad)) s1.its S'
      | none => .bad)) s.its (S ++ [.lst []])).prim.bind fun _ S' => .ok (.ref S.length) S'
  | .frz a, ρ, S => gcR S (evE a ρ S)
noncomputable def evEs : Es → Env' → List O → R (List D)
  | .nil, _, S => .ok [] S
  | .cons e r, ρ, S => (evE e ρ S).bind fun d S => (evEs r ρ S).bind fun ds S => .ok (d :: ds) S
noncomputable def evO : OE → Env' → List O → R (Option Int)
  | .no, _, S => .ok none S
  | .yes e, ρ, S => (evE e ρ S).bind fun d S => optI d S
noncomputable def evC : OE → Env' → List O → R Bool
  | .no, _, S => .ok true S
  | .yes e, ρ, S => (evE e ρ S).bind fun d S => tstD d S
noncomputable def evI : I → Env' → List O → R Src
  | .of e, ρ, S => (evE e ρ S).bind fun d S => ofS d S
  | .rng a, ρ, S => (evE a ρ S).bind fun x S => rngS (.int 0) x S
  | .rng2 a b, ρ, S => (evE a ρ S).bind fun x S => (evE b ρ S).bind fun y S => rngS x y S
  | .zip a b, ρ, S => (evE a ρ S).bind fun x S => (evE b ρ S).bind fun y S => (ofS x S).bind fun s S => (ofS y S).bind fun s' S => .ok (zipS s s') S
  | .enm a, ρ, S => (evE a ρ S).bind fun x S => (ofS x S).bind fun s S => .ok (enmS s) S
end
noncomputable def tst (e : E) (ρ : Env') (S : List O) : R Bool := (evE t C hx e ρ S).bind fun d S => tstD d S
/-- does a clause take it -/
def hdT (x : Exn) (T : TyC) : Option Bool := xisB t x T
end

section
variable (t : Ct) (C : Orc)
mutual
noncomputable def evS : S → Option Exn → Env' → List O → Fl
  | .pass, _, ρ, S => .nx ρ S
  | .doc, _, ρ, S => .nx ρ S
  | .ret e, hx, ρ, S => (evE t C hx e ρ S).fl ρ fun d S => .rt d S
  | .retN, _, _, S => .rt .non S
  | .exp e, hx, ρ, S => (evE t C hx e ρ S).fl ρ fun _ S => .nx ρ S
  | .asg g e, hx, ρ, S => (evE t C hx e ρ S).fl ρ fun d S => (match asT g d ρ with
    | some ρ' => .nx ρ' S
    | none => .bad)
  | .asgL z i elt tg it c vs, hx, ρ, S => (gcB z S (evE t C hx (.lc elt tg it c vs) ρ S)).fl ρ fun d S => .nx (ρ.set i (some d)) S
  | .asgL2 z i elt tg it tg1 it1 vs vs1, hx, ρ, S => (gcB z S (evE t C hx (.lc2 elt tg it tg1 it1 vs vs1) ρ S)).fl ρ fun d S => .nx (ρ.set i (some d)) S
  | .par i j a b, hx, ρ, S => (evE t C hx a ρ S).fl ρ fun x S => (evE t C hx b ρ S).fl ρ fun y S => .nx ((ρ.set i (some x)).set j (some y)) S
  | .asgI o i e, hx, ρ, S => (evE t C hx e ρ S).fl ρ fun d S => (evE t C hx o ρ S).fl ρ fun x S => (evE t C hx i ρ S).fl ρ fun y S => (setD x y d S).prim.fl ρ fun _ S => .nx ρ S
  | .asgF o f e, hx, ρ, S => (evE t C hx e ρ S).fl ρ fun d S => (evE t C hx o ρ S).fl ρ fun x S => (setF t x f d S).fl ρ fun _ S => .nx ρ S
  | .aug i op e, hx, ρ, S => (match ρ[i]? with
    | some (some (.int a)) => (evE t C hx e ρ S).fl ρ fun d S => (match augD op a d with
      | some c => .nx (ρ.set i (some (.int c))) S
      | none => .bad)
    | _ => .bad)
  | .ife c a b, hx, ρ, S => (tst t C hx c ρ S).fl ρ fun k S => if k = true then evSs a hx ρ S else evSs b hx ρ S
  | .wh c b, hx, ρ, S => whC (fun ρ S => tst t C hx c ρ S) (fun ρ S => evSs b hx ρ S) ρ S
  | .fr g it b, hx, ρ, S => (evI t C hx it ρ S).fl ρ fun s S => frGo s.gd g (fun ρ S => evSs b hx ρ S) s.its ρ S
  | .rse c es, hx, ρ, S => (evEs t C hx es ρ S).fl ρ fun ds S => if ds.length = (t.xfs c).length then .ex ⟨c, t.xfs c, ds⟩ ρ S else .bad
  | .tri b hs, _, ρ, S => (match evSs b none ρ S with
    | .ex x ρ' S' => evHs hs x ρ' S'
    | f => f)
noncomputable def evSs : Ss → Option Exn → Env' → List O → Fl
  | .nil, _, ρ, S => .nx ρ S
  | .cons s r, hx, ρ, S => (evS s hx ρ S).bind fun ρ' S' => evSs r hx ρ' S'
noncomputable def evHs : Hs → Exn → Env' → List O → Fl
  | .nil, x, ρ, S => .ex x ρ S
  | .cons T n b r, x, ρ, S => (match xisB t x T with
    | some true => (match n with
      | none => (evSs b (some x) ρ S).nox
      | some i => if i < ρ.length then (match (evSs b (some x) (ρ.set i none) S).nox with
        | .nx ρ' S' => .nx (ρ'.set i none) S'
        | f => f) else .bad)
    | some false => evHs r x ρ S
    | none => .bad)
end
/-- a def's call, its callees told by C -/
noncomputable def runD (d : Df) (ds : List D) (S : List O) : R D :=
  if ds.length = d.np then
    let r : R D := match evSs t C d.body none (ds.map some ++ List.replicate (d.nn - ds.length) none) S with
      | .nx _ S' => .ok .non S'
      | .rt v S' => .ok v S'
      | .ex x _ S' => .ex x S'
      | .bad => .bad
    if d.raw = true then r else gcR S r
  else .bad
end
/-- the call of the def f, calls nested k deep at most -/
noncomputable def callD (t : Ct) : Nat → Nat → List D → List O → R D
  | 0, _, _, _ => .bad
  | k + 1, f, ds, S => (match t.defs f with
    | some d => runD t (callD t k) d ds S
    | none => .bad)
end Ev
end
section
set_option Elab.async false
set_option linter.all false
set_option maxRecDepth 100000
set_option maxHeartbeats 4000000
set_option autoImplicit false
/-! Ev, part E: readings of the evaluator as HandS readings. -/
namespace Ev
open PySem PySem.Spec PyProof.Rows L2

/-- the exception that a suite holds: its address, class, dict, what it is; its name's slot -/
structure Hi where
  a : Addr
  cls : Value
  d : Option Addr
  x : Exn
  i : Option Nat
def ERep (F : Fx) (μ : Mu) (H : Hp) (ρ : Env') (σ : L2.St) : Prop :=
  ρ.length = σ.length ∧ ∀ (i : Nat) (d : D), (ρ : List (Option D))[i]? = some (some d) → ∃ v, σ[i]? = some (some v) ∧ Rep F μ H d v
def XRep (F : Fx) (μ : Mu) (H : Hp) (x : Exn) (cls : Value) (dd : Option Addr) : Prop :=
  cls = .ref (F.ca x.c) ∧ ((x.fs = [] ∧ x.vs = [] ∧ dd = none) ∨ ∃ a kvs, dd = some a ∧ a ∉ μ ∧ H a = some (.xd kvs) ∧ x.fs ≠ [] ∧
    x.fs.length = x.vs.length ∧ (∀ f ∈ x.fs, f < F.an.length) ∧ ∀ f d, lookF x.fs x.vs f = some d → ∃ v, kvs.lookup (F.nm f) = some v ∧ Rep F μ H d v)
def EnvR (F : Fx) (hi : Option Hi) (μ : Mu) (H : Hp) (ρ : Env') (σ : L2.St) : Prop :=
  ERep F μ H ρ σ ∧ ∀ h, hi = some h → XRep F μ H h.x h.cls h.d ∧ ∀ (i : Nat), h.i = some i → σ[i]? = some (some (.ref h.a)) ∧ (ρ : List (Option D))[i]? = some none

section
variable {F : Fx} {μ μ' : Mu} {H H' : Hp} {ρ : Env'} {σ : L2.St} {hi : Option Hi}
theorem ERep.mono (x : Ext μ H μ' H') (r : ERep F μ H ρ σ) : ERep F μ' H' ρ σ :=
  ⟨r.1, fun i d e => by obtain ⟨v, q, p⟩ := r.2 i d e; exact ⟨v, q, p.mono x⟩⟩
theorem XRep.mono {x : Exn} {cls : Value} {dd : Option Addr} (e : Ext μ H μ' H') (r : XRep F μ H x cls dd) : XRep F μ' H' x cls dd := by
  obtain ⟨h1, h2 | ⟨a, kvs, h2, h3, h4, hn, h5, h6, h7⟩⟩ := r
  · exact ⟨h1, .inl h2⟩
  · obtain ⟨q1, q2⟩ := e.keep a _ h3 h4
    exact ⟨h1, .inr ⟨a, kvs, h2, q2, q1, hn, h5, h6, fun f d q => by obtain ⟨v, p1, p2⟩ := h7 f d q; exact ⟨v, p1, p2.mono e⟩⟩⟩
theorem EnvR.mono (x : Ext μ H μ' H') (r : EnvR F hi μ H ρ σ) : EnvR F hi μ' H' ρ σ :=
  ⟨r.1.mono x, fun h e => ⟨(r.2 h e).1.mono x, (r.2 h e).2⟩⟩
end

/-- what is wanted of an evaluation's end -/
def Sat {α : Type} (F : Fx) (μ : Mu) (H : Hp) (r : R α) (σ : L2.St) (W : WX) (P : α → Mu → List O → Hp → Prop) : Prop := match r with
  | .ok a S => ∀ μ' H', Ext μ H μ' H' → Rel F μ' S H' → P a μ' S H'
  | .ex x S => ∀ μ' H' cls d, Ext μ H μ' H' → Rel F μ' S H' → XRep F μ' H' x cls d → W cls d σ H'
  | .bad => False
section
variable {α β : Type} {F : Fx} {μ μ' : Mu} {H H' : Hp} {σ : L2.St} {W : WX} {P P' : α → Mu → List O → Hp → Prop} {r : R α}
theorem Sat.mono (x : Ext μ H μ' H') (h : Sat F μ H r σ W P) : Sat F μ' H' r σ W P := by
  cases r with
  | ok a S => exact fun μ2 H2 e q => h μ2 H2 (x.trans e) q
  | ex a S => exact fun μ2 H2 cls d e q z => h μ2 H2 cls d (x.trans e) q z
  | bad => exact h
theorem Sat.imp (h : Sat F μ H r σ W P) (i : ∀ a μ' S' H', Ext μ H μ' H' → Rel F μ' S' H' → P a μ' S' H' → P' a μ' S' H') : Sat F μ H r σ W P' := by
  cases r with
  | ok a S => exact fun μ2 H2 e q => i _ _ _ _ e q (h μ2 H2 e q)
  | ex a S => exact h
  | bad => exact h
theorem Sat.bind {f : α → List O → R β} {Q : β → Mu → List O → Hp → Prop} (h : Sat F μ H (r.bind f) σ W Q) :
    Sat F μ H r σ W fun a μ' S' H' => Sat F μ' H' (f a S') σ W Q := by
  cases r with
  | ok a S => exact fun μ2 H2 e q => Sat.mono e h
  | ex a S => exact h
  | bad => exact h
theorem Sat.map {f : α → β} {Q : β → Mu → List O → Hp → Prop} (h : Sat F μ H (r.map f) σ W Q) :
    Sat F μ H r σ W fun a μ' S' H' => Q (f a) μ' S' H' := by
  cases r with
  | ok a S => exact h
  | ex a S => exact h
  | bad => exact h
theorem Sat.here {a : α} {S : List O} (h : Sat F μ H (.ok a S) σ W P) (rel : Rel F μ S H) : P a μ S H := h μ H (Ext.refl _ _) rel
end
abbrev PD (F : Fx) (Q : VK) : D → Mu → List O → Hp → Prop := fun d μ' _ H' => ∀ v, Rep F μ' H' d v → Q v H'
theorem Sat.p1 {F : Fx} {μ : Mu} {H : Hp} {σ : L2.St} {W : WX} {r : R D} {Q : VK} (h : Sat F μ H r.prim σ W (PD F Q)) : P1 F μ H r Q := by
  cases r with
  | ok d S => exact fun μ' H' v e q z => h μ' H' e q v z
  | ex x S => exact h
  | bad => exact h

/-! ### readings -/
section
variable (F : Fx) (W : WX) (hi : Option Hi)
def tE (f : Env' → List O → R D) : TE := fun σ H Q => ∃ ρ μ S, EnvR F hi μ H ρ σ ∧ Rel F μ S H ∧ Sat F μ H (f ρ S) σ W (PD F Q)
def tA (f : Env' → List O → R (List D)) : TA := fun σ H Q => ∃ ρ μ S, EnvR F hi μ H ρ σ ∧ Rel F μ S H ∧ Sat F μ H (f ρ S) σ W fun ds μ' _ H' => ∀ vs, RepL F μ' H' ds vs → Q vs H'
def tT (f : Env' → List O → R Bool) : TT := fun σ H Q => ∃ ρ μ S, EnvR F hi μ H ρ σ ∧ Rel F μ S H ∧ Sat F μ H (f ρ S) σ W fun b _ _ H' => Q b H'
def tO (f : Env' → List O → R (Option Int)) : TO := fun σ H Q => ∃ ρ μ S, EnvR F hi μ H ρ σ ∧ Rel F μ S H ∧ Sat F μ H (f ρ S) σ W fun b _ _ H' => Q b H'
end
/-- J yields s -/
def ItOk (F : Fx) (μ : Mu) (H : Hp) (s : Src) (J : It) : Prop := ∀ μ' S' H', Ext μ H μ' H' → Rel F μ' S' H' → gdOk S' s.gd →
  J.stop s.its.length H' ∧ ∀ i d, s.its[i]? = some d → J.go i H' ∧ ∀ x H3, J.yld i H' x H3 → Ext μ' H' μ' H3 ∧ Rel F μ' S' H3 ∧ Rep F μ' H3 d x
def tI (F : Fx) (W : WX) (hi : Option Hi) (f : Env' → List O → R Src) : TI := fun σ H R => ∃ ρ μ S, EnvR F hi μ H ρ σ ∧ Rel F μ S H ∧ Sat F μ H (f ρ S) σ W fun s μ' _ H' => ∀ J, ItOk F μ' H' s J → R J H'

section
variable {X : Cx} {F : Fx} {W : WX} {hi : Option Hi}
theorem PE.imp {e : Expr} {t t' : TE} (h : PE X e t) (i : ∀ σ H Q, t' σ H Q → t σ H Q) : PE X e t' := ⟨fun pins s σ H Q I q => h.run pins s σ H Q I (i _ _ _ q)⟩
theorem PT.imp {e : Expr} {t t' : TT} (h : PT X e t) (i : ∀ σ H Q, t' σ H Q → t σ H Q) : PT X e t' := ⟨fun pins s σ H Q I q => h.run pins s σ H Q I (i _ _ _ q)⟩
theorem PA.imp {es : List Expr} {t t' : TA} (h : PA X es t) (i : ∀ σ H Q, t' σ H Q → t σ H Q) : PA X es t' := ⟨fun pos pins s σ H Q I q => h.run pos pins s σ H Q I (i _ _ _ q)⟩
theorem PI.imp {tg e : Expr} {t t' : TI} (h : PI X tg e t) (i : ∀ σ H Q, t' σ H Q → t σ H Q) : PI X tg e t' := ⟨fun pins s σ H Q I q => h.run pins s σ H Q I (i _ _ _ q)⟩
theorem PW.imp {e : Expr} {t t' : TT} (h : PW X e t) (i : ∀ σ H Q, t' σ H Q → t σ H Q) : PW X e t' := ⟨fun wh pins s σ H Q I q => h.run wh pins s σ H Q I (i _ _ _ q)⟩

/-- a first evaluation, its value told -/
theorem tE.go {f : Env' → List O → R D} {g : D → List O → R D} {σ : L2.St} {H : Hp} {ρ : Env'} {μ : Mu} {S : List O} {Q : VK} {K : VK}
    (e : EnvR F hi μ H ρ σ) (rel : Rel F μ S H) (h : Sat F μ H ((f ρ S).bind g) σ W (PD F Q))
    (k : ∀ d μ' S' H' v, Ext μ H μ' H' → EnvR F hi μ' H' ρ σ → Rel F μ' S' H' → Rep F μ' H' d v → Sat F μ' H' (g d S') σ W (PD F Q) → K v H') : tE F W hi f σ H K :=
  ⟨ρ, μ, S, e, rel, h.bind.imp fun d μ' S' H' x rel' q v r => k d μ' S' H' v x (e.mono x) rel' r q⟩
/-- .. within any chain of evaluations -/
theorem tE.goP {α : Type} {f : Env' → List O → R D} {g : D → List O → R α} {σ : L2.St} {H : Hp} {ρ : Env'} {μ : Mu} {S : List O} {P : α → Mu → List O → Hp → Prop} {K : VK}
    (e : EnvR F hi μ H ρ σ) (rel : Rel F μ S H) (h : Sat F μ H ((f ρ S).bind g) σ W P)
    (k : ∀ d μ' S' H' v, Ext μ H μ' H' → EnvR F hi μ' H' ρ σ → Rel F μ' S' H' → Rep F μ' H' d v → Sat F μ' H' (g d S') σ W P → K v H') : tE F W hi f σ H K :=
  ⟨ρ, μ, S, e, rel, h.bind.imp fun d μ' S' H' x rel' q v r => k d μ' S' H' v x (e.mono x) rel' r q⟩
theorem tA.goP {α : Type} {f : Env' → List O → R (List D)} {g : List D → List O → R α} {σ : L2.St} {H : Hp} {ρ : Env'} {μ : Mu} {S : List O} {P : α → Mu → List O → Hp → Prop} {K : List V → Hp → Prop}
    (e : EnvR F hi μ H ρ σ) (rel : Rel F μ S H) (h : Sat F μ H ((f ρ S).bind g) σ W P)
    (k : ∀ ds μ' S' H' vs, Ext μ H μ' H' → EnvR F hi μ' H' ρ σ → Rel F μ' S' H' → RepL F μ' H' ds vs → Sat F μ' H' (g ds S') σ W P → K vs H') : tA F W hi f σ H K :=
  ⟨ρ, μ, S, e, rel, h.bind.imp fun d μ' S' H' x rel' q v r => k d μ' S' H' v x (e.mono x) rel' r q⟩
theorem tO.goP {α : Type} {f : Env' → List O → R (Option Int)} {g : Option Int → List O → R α} {σ : L2.St} {H : Hp} {ρ : Env'} {μ : Mu} {S : List O} {P : α → Mu → List O → Hp → Prop} {K : Option Int → Hp → Prop}
    (e : EnvR F hi μ H ρ σ) (rel : Rel F μ S H) (h : Sat F μ H ((f ρ S).bind g) σ W P)
    (k : ∀ o μ' S' H', Ext μ H μ' H' → EnvR F hi μ' H' ρ σ → Rel F μ' S' H' → Sat F μ' H' (g o S') σ W P → K o H') : tO F W hi f σ H K :=
  ⟨ρ, μ, S, e, rel, h.bind.imp fun d μ' S' H' x rel' q => k d μ' S' H' x (e.mono x) rel' q⟩
theorem tT.goP {α : Type} {f : Env' → List O → R Bool} {g : Bool → List O → R α} {σ : L2.St} {H : Hp} {ρ : Env'} {μ : Mu} {S : List O} {P : α → Mu → List O → Hp → Prop} {K : Bool → Hp → Prop}
    (e : EnvR F hi μ H ρ σ) (rel : Rel F μ S H) (h : Sat F μ H ((f ρ S).bind g) σ W P)
    (k : ∀ o μ' S' H', Ext μ H μ' H' → EnvR F hi μ' H' ρ σ → Rel F μ' S' H' → Sat F μ' H' (g o S') σ W P → K o H') : tT F W hi f σ H K :=
  ⟨ρ, μ, S, e, rel, h.bind.imp fun d μ' S' H' x rel' q => k d μ' S' H' x (e.mono x) rel' q⟩

/-! ### constants, names -/
theorem sE_c {e : Expr} {d : D} {v : V} (h : PE X e (tC v)) (r : ∀ μ H, Rep F μ H d v) : PE X e (tE F W hi fun _ S => .ok d S) :=
  PE.imp h fun σ H Q ⟨ρ, μ, S, _, rel, q⟩ => q.here rel v (r μ H)
theorem sE_var {i : Nat} {x : Str} {pos : Pos} (hN : X.N[i]? = some x) (hv : Vis X.env.scope x) (hd : (x == ("__debug__" : Str)) = false) (hcd : (x == ("__classdict__" : Str)) = false) :
    PE X (.Name x pos) (tE F W hi fun ρ S => match ρ[i]? with
      | some (some d) => .ok d S
      | _ => .bad) :=
  PE.imp (pe_var hN hv hd hcd) fun σ H Q ⟨ρ, μ, S, e, rel, q⟩ => by
    have q' : Sat F μ H (match ρ[i]? with
      | some (some d) => .ok d S
      | _ => .bad) σ W (PD F Q) := q
    split at q'
    · rename_i d hd
      obtain ⟨v, hv, r⟩ := e.1.2 i d hd
      exact ⟨v, hv, q'.here rel v r⟩
    · exact q'.elim

/-! ### operations -/
theorem sE_op2 {f g : Env' → List O → R D} {op : D → D → List O → R D} {e : Expr}
    (rule : PE X e (tOp (rP2 F op) (tE F W hi f) (tE F W hi g))) : PE X e (tE F W hi fun ρ S => (f ρ S).bind fun x S => (g ρ S).bind fun y S => (op x y S).prim) :=
  PE.imp rule fun σ H Q ⟨ρ, μ, S, e, rel, q⟩ => tE.goP e rel q fun d μ1 S1 H1 v x1 e1 r1 rd q1 => tE.goP e1 r1 q1 fun d2 μ2 S2 H2 v2 x2 e2 r2 rd2 q2 =>
    ⟨μ2, S2, d, d2, r2, rd.mono x2, rd2, q2.p1⟩
theorem sE_op1 {f : Env' → List O → R D} {op : D → List O → R D} {r : V → Hp → VK → Prop} {e : Expr}
    (rule : PE X e (tUn r (tE F W hi f))) (hr : ∀ μ S d v H Q, Rel F μ S H → Rep F μ H d v → P1 F μ H (op d S) Q → r v H Q) : PE X e (tE F W hi fun ρ S => (f ρ S).bind fun x S => (op x S).prim) :=
  PE.imp rule fun σ H Q ⟨ρ, μ, S, e, rel, q⟩ => tE.goP e rel q fun d μ1 S1 H1 v x1 e1 r1 rd q1 => hr μ1 S1 d v H1 Q r1 rd q1.p1
theorem sE_neg {a : Expr} {f : Env' → List O → R D} {pos : Pos} (ha : PE X a (tE F W hi f)) : PE X (.UnaryOp .USub a pos) (tE F W hi fun ρ S => (f ρ S).bind fun x S => (negD x S).prim) :=
  sE_op1 (pe_un un_neg ha) fun μ S d v H Q rel rd p => by
    unfold negD at p
    split at p
    · cases rep_int rd
      exact ⟨_, rfl, p.here rel rfl⟩
    · exact p.elim
theorem sE_nt {a : Expr} {f : Env' → List O → R D} {pos : Pos} (ha : PE X a (tE F W hi f)) : PE X (.UnaryOp .Not a pos) (tE F W hi fun ρ S => (f ρ S).bind fun x S => (ntD x S).prim) :=
  PE.imp (pe_not ha) fun σ H Q ⟨ρ, μ, S, e, rel, q⟩ => tE.goP e rel q fun d μ1 S1 H1 v x1 e1 r1 rd q1 => by
    have p := q1.p1
    unfold ntD at p
    split at p
    · cases (show _ = _ from rd)
      exact ⟨_, rfl, p.here r1 rfl⟩
    · exact p.elim
theorem sE_and {a b : Expr} {rest : List Expr} {f g : Env' → List O → R D} {pos : Pos} (ha : PE X a (tE F W hi f)) (hb : PE X (.BoolOp .And (b :: rest) pos) (tE F W hi g)) :
    PE X (.BoolOp .And (a :: b :: rest) pos) (tE F W hi fun ρ S => (f ρ S).bind fun x S => (match x with
      | .bl true => g ρ S
      | .bl false => .ok (.bl false) S
      | _ => .bad)) :=
  PE.imp (pe_and ha hb) fun σ H Q ⟨ρ, μ, S, e, rel, q⟩ => tE.goP e rel q fun d μ1 S1 H1 v x1 e1 r1 rd q1 => by
    have q2 : Sat F μ1 H1 (match d with
      | .bl true => g ρ S1
      | .bl false => .ok (.bl false) S1
      | _ => .bad) σ W (PD F Q) := q1
    split at q2
    · cases (show _ = _ from rd)
      exact ⟨true, rfl, by rw [if_pos rfl]; exact ⟨ρ, μ1, S1, e1, r1, q2⟩⟩
    · cases (show _ = _ from rd)
      exact ⟨false, rfl, by rw [if_neg (by decide)]; exact q2.here r1 _ rfl⟩
    · exact q2.elim
theorem sE_or {a b : Expr} {rest : List Expr} {f g : Env' → List O → R D} {pos : Pos} (ha : PE X a (tE F W hi f)) (hb : PE X (.BoolOp .Or (b :: rest) pos) (tE F W hi g)) :
    PE X (.BoolOp .Or (a :: b :: rest) pos) (tE F W hi fun ρ S => (f ρ S).bind fun x S => (match x with
      | .bl true => .ok (.bl true) S
      | .bl false => g ρ S
      | _ => .bad)) :=
  PE.imp (pe_or ha hb) fun σ H Q ⟨ρ, μ, S, e, rel, q⟩ => tE.goP e rel q fun d μ1 S1 H1 v x1 e1 r1 rd q1 => by
    have q2 : Sat F μ1 H1 (match d with
      | .bl true => .ok (.bl true) S1
      | .bl false => g ρ S1
      | _ => .bad) σ W (PD F Q) := q1
    split at q2
    · cases (show _ = _ from rd)
      exact ⟨true, rfl, by rw [if_pos rfl]; exact q2.here r1 _ rfl⟩
    · cases (show _ = _ from rd)
      exact ⟨false, rfl, by rw [if_neg (by decide)]; exact ⟨ρ, μ1, S1, e1, r1, q2⟩⟩
    · exact q2.elim
theorem sE_chain {o o' : CmpOp} {a b c : Expr} {f g h : Env' → List O → R D} {pos : Pos} (hk : F.K = X.K) (hu : X.A.units + 64 < cLine) (ha : PE X a (tE F W hi f)) (hb : PE X b (tE F W hi g)) (hc : PE X c (tE F W hi h)) (hm : lastMarks [o, o'] [b, c] = false) :
    PE X (.Compare a [o, o'] [b, c] pos) (tE F W hi fun ρ S => (f ρ S).bind fun x S => (g ρ S).bind fun y S => (cmpD o x y S).prim.bind fun z S => (match z with
      | .bl true => (h ρ S).bind fun w S => (cmpD o' y w S).prim
      | .bl false => .ok (.bl false) S
      | _ => .bad)) :=
  PE.imp (pe_chain (op_cmpS hk hu o) (op_cmpS hk hu o') ha hb hc hm) fun σ H Q ⟨ρ, μ, S, e, rel, q⟩ => tE.goP e rel q fun d μ1 S1 H1 v x1 e1 r1 rd q1 => tE.goP e1 r1 q1 fun d2 μ2 S2 H2 v2 x2 e2 r2 rd2 q2 => by
    refine ⟨μ2, S2, d, d2, r2, rd.mono x2, rd2, Sat.p1 (σ := σ) (W := W) (q2.bind.imp fun z μ3 S3 H3 x3 r3 q3 v3 rz => ?_)⟩
    have q4 : Sat F μ3 H3 (match z with
      | .bl true => (h ρ S3).bind fun w S => (cmpD o' d2 w S).prim
      | .bl false => .ok (.bl false) S3
      | _ => .bad) σ W (PD F Q) := q3
    split at q4
    · cases (show _ = _ from rz)
      refine ⟨true, rfl, ?_⟩
      rw [if_pos rfl]
      exact tE.goP (e2.mono x3) r3 q4 fun d4 μ4 S4 H4 v4 x4 e4 r4 rd4 q5 => ⟨μ4, S4, d2, d4, r4, (rd2.mono x3).mono x4, rd4, q5.p1⟩
    · cases (show _ = _ from rz)
      exact ⟨false, rfl, by rw [if_neg (by decide)]; exact q4.here r3 _ rfl⟩
    · exact q4.elim

/-! ### tests -/
/-- an expression that is no not, and, or, comparison, conditional -/
def plainT : Expr → Bool
  | .UnaryOp .Not _ _ => false
  | .BoolOp .. => false
  | .IfExp .. => false
  | .Compare .. => false
  | _ => true
theorem plainT_is {a : Expr} {env : Env} (h : plainT a = true) (whole : Sem Value) : isTrue a env whole = (do let v ← whole; standAt a.pos; holding [v] (truthy v)) := by
  cases a with
  | UnaryOp op x pos =>
    cases op with
    | Not => exact (Bool.false_ne_true h).elim
    | _ => rfl
  | BoolOp op es pos => exact (Bool.false_ne_true h).elim
  | IfExp c a b pos => exact (Bool.false_ne_true h).elim
  | Compare l o r pos => exact (Bool.false_ne_true h).elim
  | _ => rfl
def tstF (f : Env' → List O → R D) : Env' → List O → R Bool := fun ρ S => (f ρ S).bind fun d S => tstD d S
theorem pt_S {a : Expr} {ta : TE} (hk : F.K = X.K) (ha : PE X a ta) (hp : plainT a = true) : PT X a (fun σ H Q => ta σ H fun x H' => rPt F x H' Q) := by
  refine ⟨fun pins s σ H Q I h => ?_⟩
  rw [plainT_is hp]
  exact wpAny_bind (thn (ha.run pins s σ H _ I h) fun v s1 ⟨x, H1, I1, r1, q1⟩ => wpAny_bind (wpAny_standAt (wpAny_holding (tru_S hk pins s1 σ H1 x v Q I1 r1 q1))))
end
end Ev
end
section
set_option Elab.async false
set_option linter.all false
set_option maxRecDepth 100000
set_option maxHeartbeats 4000000
set_option autoImplicit false
/-! Ev, part F: tests, displays, calls. -/
namespace Ev
open PySem PySem.Spec PyProof.Rows L2

/-- may stand as a test -/
def tsB : Expr → Bool
  | .IfExp .. => false
  | _ => true
structure OkE (X : Cx) (F : Fx) (W : WX) (hi : Option Hi) (e : Expr) (f : Env' → List O → R D) : Prop where
  pe : PE X e (tE F W hi f)
  pt : tsB e = true → PT X e (tT F W hi (tstF f))
  pw : (∃ op es pos, e = .BoolOp op es pos) → PW X e (tT F W hi (tstF f))

section
variable {X : Cx} {F : Fx} {W : WX} {hi : Option Hi}
theorem rPt_of {μ : Mu} {H : Hp} {S : List O} {d : D} {x : V} {σ : L2.St} {Q : Bool → Hp → Prop} (rel : Rel F μ S H) (rd : Rep F μ H d x) (h : Sat F μ H (tstD d S) σ W fun b _ _ H' => Q b H') : rPt F x H Q := by
  unfold tstD at h
  split at h
  · rename_i b hb
    exact ⟨μ, S, d, b, rel, rd, hb, h.here rel⟩
  · exact h.elim
theorem OkE.plain {e : Expr} {f : Env' → List O → R D} (hk : F.K = X.K) (h : PE X e (tE F W hi f)) (hp : plainT e = true) : OkE X F W hi e f :=
  ⟨h, fun _ => PT.imp (pt_S hk h hp) fun σ H Q ⟨ρ, μ, S, e, rel, q⟩ => tE.goP e rel q fun d μ1 S1 H1 v x1 e1 r1 rd q1 => rPt_of r1 rd q1,
    fun ⟨op, es, pos, z⟩ => by subst z; exact (Bool.false_ne_true hp).elim⟩
/-- from a test told by a bool value -/
theorem pt_bl {e : Expr} {f : Env' → List O → R D} (h : ∀ {g : Env' → List O → R D}, PE X e (tE F W hi f)) (ht : PT X e (tTest (tE F W hi f))) (hb : ∀ ρ S d S', f ρ S = .ok d S' → ∃ b, d = .bl b) :
    PT X e (tT F W hi (tstF f)) :=
  PT.imp ht fun σ H Q ⟨ρ, μ, S, e, rel, q⟩ => ⟨ρ, μ, S, e, rel, by
    have q' : Sat F μ H ((f ρ S).bind fun d S => tstD d S) σ W fun b _ _ H' => Q b H' := q
    cases hf : f ρ S with
    | ok d S' =>
      obtain ⟨b, rfl⟩ := hb _ _ _ _ hf
      rw [hf] at q'
      intro μ' H' x r v rv
      cases (show _ = _ from rv)
      exact ⟨b, rfl, q' μ' H' x r⟩
    | ex x S' => rw [hf] at q'; exact q'
    | bad => rw [hf] at q'; exact q'⟩
theorem ok_ite {α : Type} {c : Prop} [Decidable c] {a b : R α} {d : α} {S : List O} (h : (if c then a else b) = .ok d S) : a = .ok d S ∨ b = .ok d S := by
  split at h
  · exact .inl h
  · exact .inr h
theorem cmpD_bl {o : CmpOp} {x y d : D} {S S' : List O} (h : cmpD o x y S = .ok d S') : ∃ b, d = .bl b := by
  have key : ∀ {b : Bool} {S : List O}, R.ok (.bl b) S = .ok d S' → ∃ b, d = .bl b := fun h => by cases h; exact ⟨_, rfl⟩
  have bd : (R.bad : R D) = .ok d S' → ∃ b, d = .bl b := fun h => nomatch h
  cases o <;> simp only [cmpD] at h
  case Eq | NotEq =>
    unfold eqDS at h
    split at h
    · rcases ok_ite h with h | h
      · exact key h
      · rcases ok_ite h with h | h
        · exact key h
        · exact bd h
    · split at h
      · rcases ok_ite h with h | h
        · exact key h
        · rcases ok_ite h with h | h
          · exact key h
          · exact bd h
      · rcases ok_ite h with h | h
        · exact key h
        · exact bd h
  case Lt =>
    unfold ltD at h
    split at h <;> first | exact key h | exact bd h
  case LtE | Gt | GtE =>
    unfold ordD at h
    split at h <;> first | exact key h | exact bd h
  case Is | IsNot =>
    unfold isD at h
    split at h <;> first | exact key h | exact bd h
  case In | NotIn =>
    unfold inDS at h
    split at h
    · split at h <;> first | exact key h | exact bd h
    · split at h
      · split at h <;> first | exact key h | exact bd h
      · split at h <;> first | exact key h | exact bd h
theorem prim_ok {α : Type} {r : R α} {d : α} {S : List O} (h : r.prim = .ok d S) : r = .ok d S := by
  cases r <;> first | exact h | exact nomatch h
theorem bind_ok {α β : Type} {r : R α} {g : α → List O → R β} {d : β} {S : List O} (h : r.bind g = .ok d S) : ∃ a S1, r = .ok a S1 ∧ g a S1 = .ok d S := by
  cases r with
  | ok a S1 => exact ⟨a, S1, rfl, h⟩
  | ex x S1 => exact nomatch h
  | bad => exact nomatch h

theorem OkE.cmp {o : CmpOp} {a b : Expr} {f g : Env' → List O → R D} {pos : Pos} (hk : F.K = X.K) (hu : X.A.units + 64 < cLine) (ha : OkE X F W hi a f) (hb : OkE X F W hi b g) (hm : behindInMarks o b = false) :
    OkE X F W hi (.Compare a [o] [b] pos) fun ρ S => (f ρ S).bind fun x S => (g ρ S).bind fun y S => (cmpD o x y S).prim := by
  have h1 := sE_op2 (pe_cmpR (pos := pos) (op_cmpS hk hu o) ha.pe hb.pe hm)
  refine ⟨h1, fun _ => pt_bl (fun {_} => h1) (PT.imp (pt_cmpR (op_cmpS hk hu o) ha.pe hb.pe hm) ?_) ?_, fun ⟨_, _, _, z⟩ => nomatch z⟩
  · intro σ H Q ⟨ρ, μ, S, e, rel, q⟩
    refine tE.goP e rel q fun d μ1 S1 H1 v x1 e1 r1 rd q1 => tE.goP e1 r1 q1 fun d2 μ2 S2 H2 v2 x2 e2 r2 rd2 q2 =>
      ⟨μ2, S2, d, d2, r2, rd.mono x2, rd2, ?_⟩
    exact Sat.p1 (σ := σ) (W := W) q2
  · intro ρ S d S' h
    obtain ⟨x, S1, _, h⟩ := bind_ok h
    obtain ⟨y, S2, _, h⟩ := bind_ok h
    exact cmpD_bl (prim_ok h)
theorem OkE.chain {o o' : CmpOp} {a b c : Expr} {f g h : Env' → List O → R D} {pos : Pos} (hk : F.K = X.K) (hu : X.A.units + 64 < cLine) (ha : OkE X F W hi a f) (hb : OkE X F W hi b g) (hc : OkE X F W hi c h) (hm : lastMarks [o, o'] [b, c] = false) :
    OkE X F W hi (.Compare a [o, o'] [b, c] pos) fun ρ S => (f ρ S).bind fun x S => (g ρ S).bind fun y S => (cmpD o x y S).prim.bind fun z S => (match z with
      | .bl true => (h ρ S).bind fun w S => (cmpD o' y w S).prim
      | .bl false => .ok (.bl false) S
      | _ => .bad) := by
  have h1 := sE_chain (pos := pos) hk hu ha.pe hb.pe hc.pe hm
  refine ⟨h1, fun _ => pt_bl (fun {_} => h1) (PT.imp (pt_chain (op_cmpS hk hu o) (op_cmpS hk hu o') ha.pe hb.pe hc.pe hm) ?_) ?_, fun ⟨_, _, _, z⟩ => nomatch z⟩
  · intro σ H Q ⟨ρ, μ, S, e, rel, q⟩
    refine tE.goP e rel q fun d μ1 S1 H1 v x1 e1 r1 rd q1 => tE.goP e1 r1 q1 fun d2 μ2 S2 H2 v2 x2 e2 r2 rd2 q2 => ?_
    refine ⟨μ2, S2, d, d2, r2, rd.mono x2, rd2, Sat.p1 (σ := σ) (W := W) (q2.bind.imp fun z μ3 S3 H3 x3 r3 q3 v3 rz => ?_)⟩
    have q4 : Sat F μ3 H3 (match z with
      | .bl true => (h ρ S3).bind fun w S => (cmpD o' d2 w S).prim
      | .bl false => .ok (.bl false) S3
      | _ => .bad) σ W (PD F fun x H' => ∃ k, x = .bl k ∧ Q k H') := q3
    split at q4
    · cases (show _ = _ from rz)
      refine ⟨true, rfl, ?_⟩
      rw [if_pos rfl]
      exact tE.goP (e2.mono x3) r3 q4 fun d4 μ4 S4 H4 v4 x4 e4 r4 rd4 q5 => ⟨μ4, S4, d2, d4, r4, (rd2.mono x3).mono x4, rd4, q5.p1⟩
    · cases (show _ = _ from rz)
      exact ⟨false, rfl, by rw [if_neg (by decide)]; exact q4.here r3 _ rfl⟩
    · exact q4.elim
  · intro ρ S d S' hh
    obtain ⟨x, S1, _, hh⟩ := bind_ok hh
    obtain ⟨y, S2, _, hh⟩ := bind_ok hh
    obtain ⟨z, S3, _, hh⟩ := bind_ok hh
    split at hh
    · obtain ⟨w, S4, _, hh⟩ := bind_ok hh
      exact cmpD_bl (prim_ok hh)
    · cases hh; exact ⟨_, rfl⟩
    · exact nomatch hh
/-- as a test: what it gives is a bool first -/
theorem OkE.nt {a : Expr} {f : Env' → List O → R D} {pos : Pos} (ha : OkE X F W hi a f) (hs : tsB a = true) : OkE X F W hi (.UnaryOp .Not a pos) fun ρ S => (f ρ S).bind fun x S => (ntD x S).prim := by
  refine ⟨sE_nt ha.pe, fun _ => PT.imp (pt_not (ha.pt hs)) ?_, fun ⟨_, _, _, z⟩ => nomatch z⟩
  intro σ H Q ⟨ρ, μ, S, e, rel, q⟩
  refine ⟨ρ, μ, S, e, rel, ?_⟩
  have q' : Sat F μ H (((f ρ S).bind fun x S => (ntD x S).prim).bind fun d S => tstD d S) σ W fun b _ _ H' => Q b H' := q
  show Sat F μ H ((f ρ S).bind fun d S => tstD d S) σ W fun b _ _ H' => Q (!b) H'
  cases hf : f ρ S with
  | ok d S' =>
    rw [hf] at q'
    have q2 : Sat F μ H ((ntD d S').prim.bind fun d S => tstD d S) σ W fun b _ _ H' => Q b H' := q'
    unfold ntD at q2
    split at q2
    · exact q2
    · exact q2.elim
  | ex x S' => rw [hf] at q'; exact q'
  | bad => rw [hf] at q'; exact q'
theorem OkE.one {op : BoolOp} {a : Expr} {f : Env' → List O → R D} {pos : Pos} (ha : OkE X F W hi a f) (hs : tsB a = true) : OkE X F W hi (.BoolOp op [a] pos) f := by
  have h : PW X (.BoolOp op [a] pos) (tT F W hi (tstF f)) := by
    cases op
    · exact pw_and1 (ha.pt hs)
    · exact pw_or1 (ha.pt hs)
  exact ⟨pe_one ha.pe, fun _ => h.pt, fun _ => h⟩
theorem OkE.and {a b : Expr} {rest : List Expr} {f g : Env' → List O → R D} {pos : Pos} (ha : OkE X F W hi a f) (hs : tsB a = true) (hb : OkE X F W hi (.BoolOp .And (b :: rest) pos) g) :
    OkE X F W hi (.BoolOp .And (a :: b :: rest) pos) fun ρ S => (f ρ S).bind fun x S => (match x with
      | .bl true => g ρ S
      | .bl false => .ok (.bl false) S
      | _ => .bad) := by
  have h : PW X (.BoolOp .And (a :: b :: rest) pos) (tT F W hi (tstF fun ρ S => (f ρ S).bind fun x S => (match x with
      | .bl true => g ρ S
      | .bl false => .ok (.bl false) S
      | _ => .bad))) := by
    refine PW.imp (pw_and (ha.pt hs) (hb.pw ⟨_, _, _, rfl⟩)) ?_
    intro σ H Q ⟨ρ, μ, S, e, rel, q⟩
    refine ⟨ρ, μ, S, e, rel, ?_⟩
    have q' : Sat F μ H (((f ρ S).bind fun x S => (match x with
      | .bl true => g ρ S
      | .bl false => .ok (.bl false) S
      | _ => .bad)).bind fun d S => tstD d S) σ W fun b _ _ H' => Q b H' := q
    show Sat F μ H ((f ρ S).bind fun d S => tstD d S) σ W fun c _ _ H1 => if c = true then tT F W hi (tstF g) σ H1 Q else Q false H1
    cases hf : f ρ S with
    | ok d S' =>
      rw [hf] at q'
      have q2 : Sat F μ H ((match d with
        | .bl true => g ρ S'
        | .bl false => .ok (.bl false) S'
        | _ => .bad).bind fun d S => tstD d S) σ W fun b _ _ H' => Q b H' := q'
      split at q2
      · intro μ' H' x r
        rw [if_pos rfl]
        exact ⟨ρ, μ', S', e.mono x, r, q2.mono x⟩
      · intro μ' H' x r
        rw [if_neg (by decide)]
        exact q2 μ' H' x r
      · exact q2.elim
    | ex x S' => rw [hf] at q'; exact q'
    | bad => rw [hf] at q'; exact q'
  exact ⟨sE_and ha.pe hb.pe, fun _ => h.pt, fun _ => h⟩
theorem OkE.or {a b : Expr} {rest : List Expr} {f g : Env' → List O → R D} {pos : Pos} (ha : OkE X F W hi a f) (hs : tsB a = true) (hb : OkE X F W hi (.BoolOp .Or (b :: rest) pos) g) :
    OkE X F W hi (.BoolOp .Or (a :: b :: rest) pos) fun ρ S => (f ρ S).bind fun x S => (match x with
      | .bl true => .ok (.bl true) S
      | .bl false => g ρ S
      | _ => .bad) := by
  have h : PW X (.BoolOp .Or (a :: b :: rest) pos) (tT F W hi (tstF fun ρ S => (f ρ S).bind fun x S => (match x with
      | .bl true => .ok (.bl true) S
      | .bl false => g ρ S
      | _ => .bad))) := by
    refine PW.imp (pw_or (ha.pt hs) (hb.pw ⟨_, _, _, rfl⟩)) ?_
    intro σ H Q ⟨ρ, μ, S, e, rel, q⟩
    refine ⟨ρ, μ, S, e, rel, ?_⟩
    have q' : Sat F μ H (((f ρ S).bind fun x S => (match x with
      | .bl true => .ok (.bl true) S
      | .bl false => g ρ S
      | _ => .bad)).bind fun d S => tstD d S) σ W fun b _ _ H' => Q b H' := q
    show Sat F μ H ((f ρ S).bind fun d S => tstD d S) σ W fun c _ _ H1 => if c = true then Q true H1 else tT F W hi (tstF g) σ H1 Q
    cases hf : f ρ S with
    | ok d S' =>
      rw [hf] at q'
      have q2 : Sat F μ H ((match d with
        | .bl true => R.ok (D.bl true) S'
        | .bl false => g ρ S'
        | _ => .bad).bind fun d S => tstD d S) σ W fun b _ _ H' => Q b H' := q'
      split at q2
      · intro μ' H' x r
        rw [if_pos rfl]
        exact q2 μ' H' x r
      · intro μ' H' x r
        rw [if_neg (by decide)]
        exact ⟨ρ, μ', S', e.mono x, r, q2.mono x⟩
      · exact q2.elim
    | ex x S' => rw [hf] at q'; exact q'
    | bad => rw [hf] at q'; exact q'
  exact ⟨sE_or ha.pe hb.pe, fun _ => h.pt, fun _ => h⟩
theorem OkE.ite {c a b : Expr} {h f g : Env' → List O → R D} {pos : Pos} (hc : OkE X F W hi c h) (hs : tsB c = true) (ha : OkE X F W hi a f) (hb : OkE X F W hi b g) :
    OkE X F W hi (.IfExp c a b pos) fun ρ S => (h ρ S).bind fun x S => (tstD x S).bind fun k S => if k = true then f ρ S else g ρ S := by
  refine ⟨PE.imp (pe_ifExp (hc.pt hs) ha.pe hb.pe) ?_, fun z => (Bool.false_ne_true z).elim, fun ⟨_, _, _, z⟩ => nomatch z⟩
  intro σ H Q ⟨ρ, μ, S, e, rel, q⟩
  refine ⟨ρ, μ, S, e, rel, ?_⟩
  show Sat F μ H ((h ρ S).bind fun d S => tstD d S) σ W _
  have q' : Sat F μ H ((h ρ S).bind fun x S => (tstD x S).bind fun k S => if k = true then f ρ S else g ρ S) σ W (PD F Q) := q
  have e3 : ((h ρ S).bind fun x S => (tstD x S).bind fun k S => if k = true then f ρ S else g ρ S) = ((h ρ S).bind fun d S => tstD d S).bind fun k S => if k = true then f ρ S else g ρ S := by
    cases h ρ S <;> rfl
  rw [e3] at q'
  refine q'.bind.imp fun k μ1 S1 H1 x1 r1 q1 => ?_
  by_cases hk : k = true
  · rw [if_pos hk] at q1 ⊢
    exact ⟨ρ, μ1, S1, e.mono x1, r1, q1⟩
  · rw [if_neg hk] at q1 ⊢
    exact ⟨ρ, μ1, S1, e.mono x1, r1, q1⟩

/-! ### lists of arguments -/
def plainA : Expr → Bool
  | .Starred .. => false
  | _ => true
theorem star_is {e : Expr} {es : List Expr} {env : Env} (h : plainA e = true) : starEach (e :: es) env = (false, eval e env) :: starEach es env := by
  cases e with
  | Starred x p => exact (Bool.false_ne_true h).elim
  | _ => rfl
theorem star_any {pos : Pos} {env : Env} : ∀ {es : List Expr}, es.all plainA = true → (backTo pos (starEach es env)).any (·.1) = false
  | [], _ => rfl
  | e :: es, h => by
    have h' := Bool.and_eq_true_iff.mp (show (plainA e && es.all plainA) = true from h)
    rw [star_is h'.1]
    show (false || (backTo pos (starEach es env)).any (·.1)) = false
    rw [star_any h'.2]; rfl
theorem sA_nil : PA X [] (tA F W hi fun _ S => .ok [] S) := PA.imp pa_nil fun σ H Q ⟨ρ, μ, S, e, rel, q⟩ => q.here rel [] rfl
theorem sA_cons {e : Expr} {es : List Expr} {f : Env' → List O → R D} {g : Env' → List O → R (List D)} (he : PE X e (tE F W hi f)) (hes : PA X es (tA F W hi g)) (hp : plainA e = true) :
    PA X (e :: es) (tA F W hi fun ρ S => (f ρ S).bind fun d S => (g ρ S).bind fun ds S => .ok (d :: ds) S) :=
  PA.imp (pa_cons he hes (star_is hp)) fun σ H Q ⟨ρ, μ, S, e, rel, q⟩ => tE.goP e rel q fun d μ1 S1 H1 v x1 e1 r1 rd q1 => tA.goP e1 r1 q1 fun ds μ2 S2 H2 vs x2 e2 r2 rds q2 =>
    q2.here r2 (v :: vs) ⟨v, vs, rfl, rd.mono x2, rds⟩
theorem sE_tup {es : List Expr} {g : Env' → List O → R (List D)} {k : Nat} {pos : Pos} (h : PA X es (tA F W hi g)) :
    PE X (.Tuple es k pos) (tE F W hi fun ρ S => (g ρ S).bind fun ds S => if ds.length ≤ sizeLine then .ok (.tup ds) S else .bad) :=
  PE.imp (pe_tup h) fun σ H Q ⟨ρ, μ, S, e, rel, q⟩ => tA.goP e rel q fun ds μ1 S1 H1 vs x1 e1 r1 rds q1 => by
    have q2 : Sat F μ1 H1 (if ds.length ≤ sizeLine then .ok (.tup ds) S1 else .bad) σ W (PD F Q) := q1
    split at q2
    · rename_i hz
      exact ⟨by rw [rds.length]; exact hz, P1.tup (Sat.p1 (σ := σ) (W := W) q2) r1 rds⟩
    · exact q2.elim
theorem sE_lst {es : List Expr} {g : Env' → List O → R (List D)} {pos : Pos} (h : PA X es (tA F W hi g)) :
    PE X (.List es pos) (tE F W hi fun ρ S => (g ρ S).bind fun ds S => if ds.length ≤ sizeLine then .ok (.ref S.length) (S ++ [.lst ds]) else .bad) :=
  PE.imp (pe_lst h) fun σ H Q ⟨ρ, μ, S, e, rel, q⟩ => tA.goP e rel q fun ds μ1 S1 H1 vs x1 e1 r1 rds q1 => by
    have q2 : Sat F μ1 H1 (if ds.length ≤ sizeLine then .ok (.ref S1.length) (S1 ++ [.lst ds]) else .bad) σ W (PD F Q) := q1
    split at q2
    · rename_i hz
      exact ⟨by rw [rds.length]; exact hz, P1.new (Sat.p1 (σ := σ) (W := W) q2) r1 fun a n => ⟨vs, upd_same, rds.mono (Ext.push n)⟩⟩
    · exact q2.elim
theorem sE_emp {k : Bool} {pos : Pos} : PE X (.Dict [] [] pos) (tE F W hi fun _ S => .ok (.ref S.length) (S ++ [if k = true then .dT [] [] else .dK [] []])) := by
  cases k with
  | true => exact PE.imp pe_dnewT fun σ H Q ⟨ρ, μ, S, e, rel, q⟩ => P1.new (Sat.p1 (σ := σ) (W := W) q) rel fun a n => ⟨[], upd_same, rfl, rfl⟩
  | false => exact PE.imp pe_dnewK fun σ H Q ⟨ρ, μ, S, e, rel, q⟩ => P1.new (Sat.p1 (σ := σ) (W := W) q) rel fun a n => ⟨[], upd_same, rfl, rfl⟩

theorem sE_flst {es : List Expr} {g : Env' → List O → R (List D)} {pos : Pos} (h : PA X es (tA F W hi g)) :
    PE X (.List es pos) (tE F W hi fun ρ S => (g ρ S).bind fun ds S => if ds.length ≤ sizeLine then .ok (.lst ds) S else .bad) :=
  PE.imp (pe_lst h) fun σ H Q ⟨ρ, μ, S, e, rel, q⟩ => tA.goP e rel q fun ds μ1 S1 H1 vs x1 e1 r1 rds q1 => by
    have q2 : Sat F μ1 H1 (if ds.length ≤ sizeLine then .ok (.lst ds) S1 else .bad) σ W (PD F Q) := q1
    split at q2
    · rename_i hz
      exact ⟨by rw [rds.length]; exact hz, P1.lst (Sat.p1 (σ := σ) (W := W) q2) r1 rds⟩
    · exact q2.elim
theorem sE_femp {k : Bool} {pos : Pos} : PE X (.Dict [] [] pos) (tE F W hi fun _ S => .ok (if k = true then .dt [] [] else .dk [] []) S) := by
  cases k with
  | true => exact PE.imp pe_dnewT fun σ H Q ⟨ρ, μ, S, e, rel, q⟩ a n => q μ _ (Ext.laid n) (rel.laid n) _ ⟨a, [], rfl, rel.fresh n, upd_same, rfl, rfl⟩
  | false => exact PE.imp pe_dnewK fun σ H Q ⟨ρ, μ, S, e, rel, q⟩ a n => q μ _ (Ext.laid n) (rel.laid n) _ ⟨a, [], rfl, rel.fresh n, upd_same, rfl, rfl⟩

/-! ### subscripts, slices -/
def plainI : Expr → Bool
  | .Slice .. => false
  | _ => true
theorem plainI_is {b : Expr} (h : plainI b = true) : PlainIx b := by
  cases b with
  | Slice l u s p => exact (Bool.false_ne_true h).elim
  | _ => intro o i; rfl
theorem sE_idx {a b : Expr} {f g : Env' → List O → R D} {pos : Pos} (hk : F.K = X.K) (hu : X.A.units + 64 < cLine) (ha : PE X a (tE F W hi f)) (hb : PE X b (tE F W hi g)) (hp : plainI b = true) :
    PE X (.Subscript a b pos) (tE F W hi fun ρ S => (f ρ S).bind fun x S => (g ρ S).bind fun y S => (idxD x y S).prim) :=
  sE_op2 (pe_ix (ix_S hk hu) ha hb (plainI_is hp))
theorem sO_no : PO X none (tO F W hi fun _ S => .ok none S) := ⟨fun pins s σ H Q I ⟨ρ, μ, S, e, rel, q⟩ => po_none.run pins s σ H Q I (q.here rel)⟩
theorem sO_yes {e : Expr} {f : Env' → List O → R D} (h : PE X e (tE F W hi f)) : PO X (some e) (tO F W hi fun ρ S => (f ρ S).bind fun d S => optI d S) :=
  ⟨fun pins s σ H Q I ⟨ρ, μ, S, e, rel, q⟩ => (po_some h).run pins s σ H Q I (tE.goP e rel q fun d μ1 S1 H1 v x1 e1 r1 rd q1 => by
    have q2 : Sat F μ1 H1 (optI d S1) σ W fun b _ _ H' => Q b H' := q1
    unfold optI at q2
    split at q2
    · cases rep_int rd
      exact ⟨_, rfl, q2.here r1⟩
    · exact q2.elim)⟩
theorem sE_slc {a : Expr} {lo up : Option Expr} {f : Env' → List O → R D} {l h : Env' → List O → R (Option Int)} {pos p2 : Pos} (hk : F.K = X.K) (ha : PE X a (tE F W hi f)) (hl : PO X lo (tO F W hi l)) (hh : PO X up (tO F W hi h)) :
    PE X (.Subscript a (.Slice lo up none p2) pos) (tE F W hi fun ρ S => (f ρ S).bind fun x S => (l ρ S).bind fun lo S => (h ρ S).bind fun up S => (sliceD x lo up S).prim) :=
  PE.imp (pe_slice (sl_S hk) ha hl hh) fun σ H Q ⟨ρ, μ, S, e, rel, q⟩ => tE.goP e rel q fun d μ1 S1 H1 v x1 e1 r1 rd q1 => tO.goP e1 r1 q1 fun o1 μ2 S2 H2 x2 e2 r2 q2 =>
    tO.goP e2 r2 q2 fun o2 μ3 S3 H3 x3 e3 r3 q3 => ⟨μ3, S3, d, r3, (rd.mono x2).mono x3, q3.p1⟩
/-- a value's end told the same -/
theorem tE.frz {f : Env' → List O → R D} {g : Env' → List O → R D} {e : Expr} (h : PE X e (tE F W hi f))
    (i : ∀ ρ μ S H σ Q, Rel F μ S H → Sat F μ H (g ρ S) σ W (PD F Q) → Sat F μ H (f ρ S) σ W (PD F Q)) : PE X e (tE F W hi g) :=
  PE.imp h fun σ H Q ⟨ρ, μ, S, e, rel, q⟩ => ⟨ρ, μ, S, e, rel, i ρ μ S H σ Q rel q⟩

/-! ### built-in functions -/
theorem sE_callB {id : String} {r : List D → List O → R D} {x : Str} {p pos : Pos} {e : Expr} {es : List Expr} {g : Env' → List O → R (List D)} (hc : CallR X (.builtin id) (rPn F r)) (hg : Gl X x) (hm : X.mg x = none) (hv : bootBuiltins x = some (.builtin id))
    (ha : PA X (e :: es) (tA F W hi g)) (hn : x ≠ "__name__") (hdb : (x == ("__debug__" : Str)) = false) (hp : (e :: es).all plainA = true) :
    PE X (.Call (.Name x p) (e :: es) [] pos) (tE F W hi fun ρ S => (g ρ S).bind fun ds S => (r ds S).prim) := by
  have h' := Bool.and_eq_true_iff.mp (show (plainA e && es.all plainA) = true from hp)
  exact PE.imp (pe_callB hc hg hm hv ha hn hdb (star_is h'.1) (star_any h'.2)) fun σ H Q ⟨ρ, μ, S, e, rel, q⟩ => tA.goP e rel q fun ds μ1 S1 H1 vs x1 e1 r1 rds q1 => ⟨μ1, S1, ds, r1, rds, q1.p1⟩
theorem sE_callT {id : String} {r : List D → List O → R D} {x : Str} {p pos : Pos} {e : Expr} {es : List Expr} {g : Env' → List O → R (List D)} (hc : CallR X (.type id) (rPn F r)) (hg : Gl X x) (hm : X.mg x = none) (hv : bootBuiltins x = some (.type id))
    (ha : PA X (e :: es) (tA F W hi g)) (hn : x ≠ "__name__") (hdb : (x == ("__debug__" : Str)) = false) (hp : (e :: es).all plainA = true) :
    PE X (.Call (.Name x p) (e :: es) [] pos) (tE F W hi fun ρ S => (g ρ S).bind fun ds S => (r ds S).prim) := by
  have h' := Bool.and_eq_true_iff.mp (show (plainA e && es.all plainA) = true from hp)
  exact PE.imp (pe_callTy hc hg hm hv ha hn hdb (star_is h'.1) (star_any h'.2)) fun σ H Q ⟨ρ, μ, S, e, rel, q⟩ => tA.goP e rel q fun ds μ1 S1 H1 vs x1 e1 r1 rds q1 => ⟨μ1, S1, ds, r1, rds, q1.p1⟩
end
end Ev
end
section
set_option Elab.async false
set_option linter.all false
set_option maxRecDepth 100000
set_option maxHeartbeats 4000000
set_option autoImplicit false
/-! Ev, part G: calls, attributes, isinstance, methods, caught errors. -/
namespace Ev
open PySem PySem.Spec PyProof.Rows L2

def spD (F : Fx) (n : Nat) (r : List D → List O → R D) : Sp := fun vs H Q E => vs.length = n ∧ ∃ μ S ds, Rel F μ S H ∧ RepL F μ H ds vs ∧ (match r ds S with
  | .ok d S' => ∀ μ' H' v, Ext μ H μ' H' → Rel F μ' S' H' → Rep F μ' H' d v → Q v H'
  | .ex x S' => ∀ μ' H' cls dd, Ext μ H μ' H' → Rel F μ' S' H' → XRep F μ' H' x cls dd → E cls dd H'
  | .bad => False)

section
variable {X : Cx} {F : Fx} {W : WX} {hi : Option Hi} {t : Ct}
theorem sE_call {x : Str} {f : Addr} {fd : FuncData} {ps : List Str} {n k : Nat} {r : List D → List O → R D} {p pos : Pos} {e : Expr} {es : List Expr} {g : Env' → List O → R (List D)}
    (Ff : FnOk X.prog X.w X.K X.mg X.base (L2.CX X.prog X.w) k f fd ps (spD F n r)) (hl : ∀ ds S, r ds S ≠ .bad → ds.length = n) (hr : Room k X.A) (hg : Gl X x) (hm : X.mg x = some (.ref f))
    (hk : PySem.W.keepIn X.K (.ref f) = true) (hb : Binds X.K fd ps []) (tk : Takes X W) (ha : PA X (e :: es) (tA F W hi g)) (hdb : (x == ("__debug__" : Str)) = false) (hp : (e :: es).all plainA = true) :
    PE X (.Call (.Name x p) (e :: es) [] pos) (tE F W hi fun ρ S => (g ρ S).bind fun ds S => r ds S) := by
  have h' := Bool.and_eq_true_iff.mp (show (plainA e && es.all plainA) = true from hp)
  refine PE.imp (pe_callS Ff hr hg hm hk hb (fun σ => passAt tk σ) ha hdb (star_is h'.1) (star_any h'.2)) ?_
  intro σ H Q ⟨ρ, μ, S, e, rel, q⟩
  refine tA.goP e rel q fun ds μ1 S1 H1 vs x1 e1 r1 rds q1 => ?_
  have hb : r ds S1 ≠ .bad := fun z => by rw [z] at q1; exact q1
  refine ⟨by rw [rds.length]; exact hl _ _ hb, μ1, S1, ds, r1, rds, ?_⟩
  cases hr : r ds S1 with
  | ok d S' => rw [hr] at q1; exact fun μ' H' v x rel' rv => q1 μ' H' x rel' v rv
  | ex x S' => rw [hr] at q1; exact q1
  | bad => exact hb hr

/-! ### attributes -/
theorem lookF_mem : ∀ {fs : List Nat} {ds : List D} {f : Nat} {d : D}, lookF fs ds f = some d → f ∈ fs
  | [], _, _, _, h => by unfold lookF at h; cases h
  | g :: fs, [], _, _, h => by unfold lookF at h; cases h
  | g :: fs, e :: ds, f, d, h => by
    unfold lookF at h
    split at h
    · rename_i e; exact e ▸ List.mem_cons_self
    · exact List.mem_cons_of_mem _ (lookF_mem h)
theorem lookF_rep {μ : Mu} {H : Hp} : ∀ {fs : List Nat} {ds : List D} {vs : List V} {f : Nat} {d : D}, RepL F μ H ds vs → (∀ f ∈ fs, f < F.an.length) → f < F.an.length → lookF fs ds f = some d →
    ∃ v, ((fs.map F.nm).zip vs).lookup (F.nm f) = some v ∧ Rep F μ H d v
  | [], _, _, _, _, _, _, _, h => by unfold lookF at h; cases h
  | g :: fs, [], _, _, _, _, _, _, h => by unfold lookF at h; cases h
  | g :: fs, e :: ds, vs, f, d, r, hb, hf, h => by
    obtain ⟨v, vr, rfl, r1, r2⟩ := r
    unfold lookF at h
    show ∃ v', List.lookup (F.nm f) ((F.nm g, v) :: (fs.map F.nm).zip vr) = some v' ∧ _
    split at h
    · rename_i e
      cases h
      subst e
      exact ⟨v, by rw [List.lookup_cons, beq_self_eq_true], r1⟩
    · rename_i ne
      have hne : F.nm f ≠ F.nm g := fun z => ne (Fx.inj hf (hb g List.mem_cons_self) z).symm
      obtain ⟨w, e1, e2⟩ := lookF_rep r2 (fun f hf => hb f (List.mem_cons_of_mem _ hf)) hf h
      refine ⟨w, ?_, e2⟩
      rw [List.lookup_cons, beq_eq_false_iff_ne.mpr hne]; exact e1
theorem insOf_rep {μ : Mu} {H : Hp} {S : List O} {d : D} {v : V} {C : Nat} {fs : List Nat} {ds : List D} (rel : Rel F μ S H) (rd : Rep F μ H d v) (h : insOf S d = some (C, fs, ds)) :
    ∃ a dx vs, v = .ref a ∧ H a = some (.ins (F.ca C) dx ((fs.map F.nm).zip vs)) ∧ fs.length = ds.length ∧ (∀ f ∈ fs, f < F.an.length) ∧ RepL F μ H ds vs := by
  unfold insOf at h
  split at h
  · cases h
    obtain ⟨a, dx, vs, e, m, q, l, b, r⟩ := rd
    exact ⟨a, dx, vs, e, q, l, b, r⟩
  · rename_i n
    obtain ⟨a, rfl, hm⟩ := rd
    split at h
    · rename_i hn
      cases h
      obtain ⟨dx, vs, q, l, b, r⟩ := rel.obj n _ a hn hm
      exact ⟨a, dx, vs, rfl, q, l, b, r⟩
    · cases h
  · cases h
def plainB : Expr → Bool
  | .Call (.Name _ _) [] [] _ => false
  | _ => true
theorem plainB_is {o : Expr} {f : Str} {env : Env} {wh : Sem Value} (h : plainB o = true) : attributeBase o f env wh = wh := by
  unfold attributeBase
  split
  · exact (Bool.false_ne_true h).elim
  · rfl
theorem sE_attr {e : Expr} {f : Nat} {fn : Str} {g : Env' → List O → R D} {pos : Pos} (hk : F.K = X.K) (he : PE X e (tE F W hi g)) (hp : plainB e = true) (hf : F.nm f = fn)
    (hc : ∀ C, t.fld C f = true → Cls X.K (F.ca C) ∧ NoAttr X.K (F.ca C) (F.nm f) ∧ f < F.an.length) :
    PE X (.Attribute e fn pos) (tE F W hi fun ρ S => (g ρ S).bind fun x S => attrD t x f S) :=
  PE.imp (pe_fld he (plainB_is hp)) fun σ H Q ⟨ρ, μ, S, e, rel, q⟩ => tE.goP e rel q fun d μ1 S1 H1 v x1 e1 r1 rd q1 => by
    have q2 : Sat F μ1 H1 (attrD t d f S1) σ W (PD F Q) := q1
    unfold attrD at q2
    split at q2
    · rename_i C fs ds hi
      obtain ⟨a, dx, vs, rfl, hq, l, b, r⟩ := insOf_rep r1 rd hi
      split at q2
      · rename_i d' hl
        split at q2
        · rename_i hfl
          obtain ⟨c1, c2, c3⟩ := hc C hfl
          obtain ⟨w, w1, w2⟩ := lookF_rep r b c3 hl
          subst hf
          exact ⟨a, _, dx, _, w, rfl, hq, c1, c2, w1, q2.here r1 w w2⟩
        · exact q2.elim
      · exact q2.elim
    · exact q2.elim

/-! ### isinstance -/
structure ClsF (K : PySem.W.Frag) (C : Addr) : Prop where
  cls : Cls K C
  ha : PySem.W.findIn K (.ref C) "__class__" = some (some (.builtin "object.__class__"))
  hn : PySem.W.specialIn K (.builtin "object.__class__") "__get__" = some (some (.builtin "getset_descriptor.__get__"))
  htk : PySem.W.takesIn K (.builtin "object.__class__") = some true
  hm : PySem.W.mroIn K C (.type "object") = some true
def tnV (F : Fx) : TN → Value
  | .non => .type "NoneType"
  | .bl => .type "bool"
  | .int => .type "int"
  | .str => .type "str"
  | .tup => .type "tuple"
  | .lst => .type "list"
  | .dct => .type "dict"
  | .ins C => .ref (F.ca C)
theorem tyN_rep {μ : Mu} {H : Hp} {S : List O} {d : D} {v : V} {n : TN} (hk : F.K = X.K) (hc : ∀ C, n = .ins C → ClsF X.K (F.ca C)) (rel : Rel F μ S H) (rd : Rep F μ H d v) (h : tyN S d = some n) : TyX X.K H v (tnV F n) := by
  have ins : ∀ {a C dx fs}, n = .ins C → H a = some (.ins (F.ca C) dx fs) → TyX X.K H (.ref a) (tnV F n) := fun {a C dx fs} e q => by
    subst e
    have c := hc C rfl
    exact .base (.ins q c.cls c.ha c.hn c.htk c.hm)
  cases d with
  | non => cases h; cases (show _ = _ from rd); exact .base .non
  | bl b => cases h; cases (show _ = _ from rd); exact .base (.bl _)
  | int i => cases h; cases (show _ = _ from rd); exact .base (.int _)
  | str cs => cases h; cases (show _ = _ from rd); exact .base (.str _)
  | tup ds => cases h; obtain ⟨a, vs, rfl, q, r⟩ := rd; exact .base (.tup q.2)
  | lst ds => cases h; obtain ⟨a, vs, rfl, q, r⟩ := rd; exact .base (.lst q.2)
  | ft ds =>
    cases h
    obtain ⟨a, vs, rfl, ⟨_, q | ⟨o, q⟩⟩ | ⟨o, its, m, q, c, _⟩, r⟩ := rd
    · exact .base (.tup q)
    · exact .fTuple q
    · exact .kTuple (hk ▸ q) c
  | fl ds =>
    cases h
    obtain ⟨a, vs, rfl, ⟨_, q | ⟨o, q⟩⟩ | ⟨o, its, m, q, c, _⟩, r⟩ := rd
    · exact .base (.lst q)
    · exact .base (.frz q)
    · exact .kList (hk ▸ q) c
  | dk ks ds => cases h; obtain ⟨a, vs, rfl, _, q, _⟩ := rd; exact .base (.dK q)
  | dt ks ds => cases h; obtain ⟨a, vs, rfl, _, q, _⟩ := rd; exact .base (.dT q)
  | ins C fs ds => cases h; obtain ⟨a, dx, vs, rfl, _, q, _⟩ := rd; exact ins rfl q
  | cls x => cases h
  | ref m =>
    obtain ⟨a, rfl, hm⟩ := rd
    unfold tyN at h
    dsimp only at h
    split at h
    · rename_i hn; cases h; obtain ⟨vs, q, _⟩ := rel.obj m _ a hn hm; exact .base (.lst q)
    · rename_i hn; cases h; obtain ⟨vs, q, _⟩ := rel.obj m _ a hn hm; exact .base (.dK q)
    · rename_i hn; cases h; obtain ⟨vs, q, _⟩ := rel.obj m _ a hn hm; exact .base (.dT q)
    · rename_i hn; cases h; obtain ⟨dx, vs, q, _⟩ := rel.obj m _ a hn hm; exact ins rfl q
    · cases h
/-- an expression that names the class T -/
structure ClsE (X : Cx) (F : Fx) (t : Ct) (ce : Expr) (T : TyC) (cv : V) (u : Value) : Prop where
  pe : PE X ce (tC cv)
  cv : ClsV cv u
  kit : ∀ n b, kitD t n T = some b → PySem.W.kitOne X.K (tnV F n) u = some b
  pl : plainA ce = true
/-- .. one after another -/
inductive ClsEs (X : Cx) (F : Fx) (t : Ct) : List Expr → List TyC → List V → List Value → Prop
  | nil : ClsEs X F t [] [] [] []
  | cons {ce : Expr} {T : TyC} {cv : V} {u : Value} {ces : List Expr} {Ts : List TyC} {cvs : List V} {us : List Value} (h : ClsE X F t ce T cv u) (r : ClsEs X F t ces Ts cvs us) : ClsEs X F t (ce :: ces) (T :: Ts) (cv :: cvs) (u :: us)
theorem kitD_icl {n : TN} {T : TyC} {b : Bool} (h : kitD t n T = some b) {C : Nat} (e : n = .ins C) : t.icl C = true := by
  subst e
  cases T <;> simp only [kitD] at h <;> first | (cases h; done) | (split at h <;> first | (rename_i z; first | exact z.1 | exact z) | cases h)
def tConst (vs : List V) : TA := fun _ H Q => Q vs H
theorem ClsEs.pa : ∀ {ces : List Expr} {Ts : List TyC} {cvs : List V} {us : List Value}, ClsEs X F t ces Ts cvs us → PA X ces (tConst cvs)
  | _, _, _, _, .nil => pa_nil
  | _, _, _, _, .cons h r => PA.imp (pa_cons h.pe (ClsEs.pa r) (star_is h.pl)) fun _ _ _ q => q
theorem ClsEs.paired : ∀ {ces : List Expr} {Ts : List TyC} {cvs : List V} {us : List Value}, ClsEs X F t ces Ts cvs us → Paired ClsV cvs us
  | _, _, _, _, .nil => .nil
  | _, _, _, _, .cons h r => .cons h.cv (ClsEs.paired r)
theorem isiD_icl {d : D} {S S' : List O} {d' : D} : ∀ {Ts : List TyC}, Ts ≠ [] → isiD t d S Ts = .ok d' S' → ∃ n, tyN S d = some n ∧ ∀ C, n = .ins C → t.icl C = true
  | [], h, _ => (h rfl).elim
  | T :: Ts, _, h => by
    unfold isiD isi1 at h
    cases hn : tyN S d with
    | none => rw [hn] at h; exact nomatch h
    | some n =>
      rw [hn] at h
      refine ⟨n, rfl, fun C e => ?_⟩
      cases hk : kitD t n T with
      | none => rw [show (some n).bind (fun n => kitD t n T) = kitD t n T from rfl, hk] at h; exact nomatch h
      | some b => exact kitD_icl hk e
theorem ClsEs.kit {n : TN} {S S' : List O} {d d' : D} : ∀ {ces : List Expr} {Ts : List TyC} {cvs : List V} {us : List Value}, ClsEs X F t ces Ts cvs us → tyN S d = some n → isiD t d S Ts = .ok d' S' →
    ∃ b, S' = S ∧ d' = .bl b ∧ PySem.W.kitAny X.K (tnV F n) us = some b
  | _, _, _, _, .nil, _, h => by
    cases h
    exact ⟨false, rfl, rfl, kitAny_nil⟩
  | _, _, _, _, .cons (T := T) (Ts := Ts) hc r, hn, h => by
    unfold isiD isi1 at h
    rw [hn] at h
    have e : (some n).bind (fun n => kitD t n T) = kitD t n T := rfl
    rw [e] at h
    cases hk : kitD t n T with
    | none => rw [hk] at h; exact nomatch h
    | some b =>
      rw [hk] at h
      have h1 := hc.kit n b hk
      cases b with
      | true =>
        cases h
        exact ⟨true, rfl, rfl, kitAny_cons h1 (fun z => nomatch z) fun _ => rfl⟩
      | false =>
        obtain ⟨b', e1, e2, e3⟩ := ClsEs.kit r hn h
        exact ⟨b', e1, e2, kitAny_cons h1 (fun _ => e3) fun z => nomatch z⟩
theorem isiD_not_ex {d : D} {S S' : List O} {x : Exn} : ∀ {Ts : List TyC}, isiD t d S Ts ≠ .ex x S'
  | [], h => nomatch h
  | T :: Ts, h => by
    unfold isiD at h
    split at h
    · cases h
    · exact isiD_not_ex h
    · cases h
theorem sE_isiT {a : Expr} {ces : List Expr} {Ts : List TyC} {cvs : List V} {us : List Value} {f : Env' → List O → R D} {p pos p2 : Pos} {k : Nat} (hk : F.K = X.K) (hF : ∀ C, t.icl C = true → ClsF X.K (F.ca C)) (hg : Gl X "isinstance") (hm : X.mg "isinstance" = none)
    (ha : PE X a (tE F W hi f)) (hc : ClsEs X F t ces Ts cvs us) (hpa : plainA a = true) (hne : Ts ≠ []) (hz : cvs.length ≤ sizeLine) :
    PE X (.Call (.Name "isinstance" p) [a, .Tuple ces k p2] [] pos) (tE F W hi fun ρ S => (f ρ S).bind fun x S => isiD t x S Ts) := by
  have h2 : PA X [a, .Tuple ces k p2] (tCons (tE F W hi f) (tCons (tTup (tConst cvs)) tNil)) := pa_cons ha (pa_cons (pe_tup hc.pa) pa_nil) (star_is hpa)
  refine PE.imp (pe_callB call_isiT hg hm (by rfl) h2 (by decide) (by decide) (star_is hpa)) ?_
  intro σ H Q ⟨ρ, μ, S, e, rel, q⟩
  refine tE.goP e rel q fun d μ1 S1 H1 v x1 e1 r1 rd q1 => ⟨hz, fun tp hn => ?_⟩
  have q2 : Sat F μ1 H1 (isiD t d S1 Ts) σ W (PD F Q) := q1
  cases hr : isiD t d S1 Ts with
  | ok d' S' =>
    rw [hr] at q2
    obtain ⟨n, hn1, hn2⟩ := isiD_icl hne hr
    obtain ⟨b, rfl, rfl, h3⟩ := hc.kit hn1 hr
    exact ⟨v, tp, cvs, _, us, b, rfl, upd_same, hc.paired, tyN_rep hk (fun C e => hF C (hn2 C e)) (r1.laid hn) (rd.mono (Ext.laid hn)) hn1, h3, q2 _ _ (Ext.laid hn) (r1.laid hn) _ rfl⟩
  | ex x S' => exact (isiD_not_ex hr).elim
  | bad => rw [hr] at q2; exact q2.elim
theorem sE_isi {a ce : Expr} {T : TyC} {cv : V} {u : Value} {f : Env' → List O → R D} {p pos : Pos} (hk : F.K = X.K) (hF : ∀ C, t.icl C = true → ClsF X.K (F.ca C)) (hg : Gl X "isinstance") (hm : X.mg "isinstance" = none)
    (ha : PE X a (tE F W hi f)) (hc : ClsE X F t ce T cv u) (hpa : plainA a = true) :
    PE X (.Call (.Name "isinstance" p) [a, ce] [] pos) (tE F W hi fun ρ S => (f ρ S).bind fun x S => isiD t x S [T]) := by
  have h2 : PA X [a, ce] (tCons (tE F W hi f) (tCons (tC cv) tNil)) := pa_cons ha (pa_cons hc.pe pa_nil (star_is hc.pl)) (star_is hpa)
  refine PE.imp (pe_callB call_isi hg hm (by rfl) h2 (by decide) (by decide) (star_is hpa) (star_any (by show (plainA ce && true) = true; rw [hc.pl]; rfl))) ?_
  intro σ H Q ⟨ρ, μ, S, e, rel, q⟩
  refine tE.goP e rel q fun d μ1 S1 H1 v x1 e1 r1 rd q1 => ?_
  have q2 : Sat F μ1 H1 (isiD t d S1 [T]) σ W (PD F Q) := q1
  cases hr : isiD t d S1 [T] with
  | ok d' S' =>
    rw [hr] at q2
    obtain ⟨n, hn1, hn2⟩ := isiD_icl (by simp) hr
    unfold isiD isi1 at hr
    rw [hn1] at hr
    have e : (some n).bind (fun n => kitD t n T) = kitD t n T := rfl
    rw [e] at hr
    cases hkk : kitD t n T with
    | none => rw [hkk] at hr; exact nomatch hr
    | some b =>
      rw [hkk] at hr
      have h1 := hc.kit n b hkk
      have ty := tyN_rep hk (fun C e => hF C (hn2 C e)) r1 rd hn1
      cases b with
      | true => cases hr; exact ⟨v, cv, _, u, true, rfl, hc.cv, ty, h1, q2.here r1 _ rfl⟩
      | false => cases hr; exact ⟨v, cv, _, u, false, rfl, hc.cv, ty, h1, q2.here r1 _ rfl⟩
  | ex x S' => exact (isiD_not_ex hr).elim
  | bad => rw [hr] at q2; exact q2.elim
end
end Ev
end
section
set_option Elab.async false
set_option linter.all false
set_option maxRecDepth 100000
set_option maxHeartbeats 4000000
set_option autoImplicit false
/-! Ev, part H: what was made is told by value. -/
namespace Ev
open PySem PySem.Spec PyProof.Rows L2

section
variable {F : Fx} {μ0 μ1 : Mu} {H : Hp}
theorem not_pre {t : Mu} {a : Addr} (e : μ1 = μ0 ++ t) (h : a ∉ μ1) : a ∉ μ0 := fun m => h (by rw [e]; exact List.mem_append_left _ m)
mutual
theorem cl_rep {t : Mu} (e : μ1 = μ0 ++ t) : ∀ (d : D) (v : V), clD μ0.length d = true → Rep F μ1 H d v → Rep F μ0 H d v
  | .non, _, _, h => h
  | .bl _, _, _, h => h
  | .int _, _, _, h => h
  | .str _, _, _, h => h
  | .cls _, _, _, h => h
  | .tup ds, v, c, h => by
    obtain ⟨a, vs, q, m, r⟩ := h
    exact ⟨a, vs, q, ⟨not_pre e m.1, m.2⟩, cl_repL e ds vs c r⟩
  | .lst ds, v, c, h => by
    obtain ⟨a, vs, q, m, r⟩ := h
    exact ⟨a, vs, q, ⟨not_pre e m.1, m.2⟩, cl_repL e ds vs c r⟩
  | .ft ds, v, c, h => by
    obtain ⟨a, vs, q, m, r⟩ := h
    exact ⟨a, vs, q, m.imp (fun z => ⟨not_pre e z.1, z.2⟩) id, cl_repL e ds vs c r⟩
  | .fl ds, v, c, h => by
    obtain ⟨a, vs, q, m, r⟩ := h
    exact ⟨a, vs, q, m.imp (fun z => ⟨not_pre e z.1, z.2⟩) id, cl_repL e ds vs c r⟩
  | .dk ks ds, v, c, h => by
    obtain ⟨a, vs, q, m, z, l, r⟩ := h
    exact ⟨a, vs, q, not_pre e m, z, l, cl_repL e ds vs c r⟩
  | .dt ks ds, v, c, h => by
    obtain ⟨a, vs, q, m, z, l, r⟩ := h
    exact ⟨a, vs, q, not_pre e m, z, l, cl_repL e ds vs c r⟩
  | .ins C fs ds, v, c, h => by
    obtain ⟨a, dx, vs, q, m, z, l, b, r⟩ := h
    exact ⟨a, dx, vs, q, not_pre e m, z, l, b, cl_repL e ds vs c r⟩
  | .ref n, v, c, h => by
    obtain ⟨a, q, z⟩ := h
    have hn : n < μ0.length := of_decide_eq_true c
    refine ⟨a, q, ?_⟩
    rw [e, List.getElem?_append_left hn] at z
    exact z
theorem cl_repL {t : Mu} (e : μ1 = μ0 ++ t) : ∀ (ds : List D) (vs : List V), clL μ0.length ds = true → RepL F μ1 H ds vs → RepL F μ0 H ds vs
  | [], _, _, h => h
  | d :: ds, vs, c, h => by
    have c' := Bool.and_eq_true_iff.mp (show (clD μ0.length d && clL μ0.length ds) = true from c)
    obtain ⟨v, r, q, h1, h2⟩ := h
    exact ⟨v, r, q, cl_rep e d v c'.1 h1, cl_repL e ds r c'.2 h2⟩
end
mutual
theorem rep_cl : ∀ (d : D) (v : V), Rep F μ0 H d v → clD μ0.length d = true
  | .non, _, _ => rfl
  | .bl _, _, _ => rfl
  | .int _, _, _ => rfl
  | .str _, _, _ => rfl
  | .cls _, _, _ => rfl
  | .tup ds, v, h => by obtain ⟨a, vs, q, m, r⟩ := h; exact rep_clL ds vs r
  | .lst ds, v, h => by obtain ⟨a, vs, q, m, r⟩ := h; exact rep_clL ds vs r
  | .ft ds, v, h => by obtain ⟨a, vs, q, m, r⟩ := h; exact rep_clL ds vs r
  | .fl ds, v, h => by obtain ⟨a, vs, q, m, r⟩ := h; exact rep_clL ds vs r
  | .dk ks ds, v, h => by obtain ⟨a, vs, q, m, z, l, r⟩ := h; exact rep_clL ds vs r
  | .dt ks ds, v, h => by obtain ⟨a, vs, q, m, z, l, r⟩ := h; exact rep_clL ds vs r
  | .ins C fs ds, v, h => by obtain ⟨a, dx, vs, q, m, z, l, b, r⟩ := h; exact rep_clL ds vs r
  | .ref n, v, h => by
    obtain ⟨a, q, z⟩ := h
    exact decide_eq_true (List.getElem?_eq_some_iff.mp z).1
theorem rep_clL : ∀ (ds : List D) (vs : List V), RepL F μ0 H ds vs → clL μ0.length ds = true
  | [], _, _ => rfl
  | d :: ds, vs, h => by
    obtain ⟨v, r, q, h1, h2⟩ := h
    show (clD μ0.length d && clL μ0.length ds) = true
    rw [rep_cl d v h1, rep_clL ds r h2]; rfl
end
mutual
theorem frz_rep {t : Mu} (e : μ1 = μ0 ++ t) {g : Nat → Option D} (hg : ∀ n d' a, g n = some d' → μ1[n]? = some a → Rep F μ0 H d' (.ref a)) :
    ∀ (d d' : D) (v : V), frzD g d = some d' → Rep F μ1 H d v → Rep F μ0 H d' v
  | .non, _, _, f, h => by cases f; exact h
  | .bl _, _, _, f, h => by cases f; exact h
  | .int _, _, _, f, h => by cases f; exact h
  | .str _, _, _, f, h => by cases f; exact h
  | .cls _, _, _, f, h => by cases f; exact h
  | .tup ds, d', v, f, h => by
    obtain ⟨ds', fl, rfl⟩ := Option.map_eq_some_iff.mp (show (frzL g ds).map D.tup = some d' from f)
    obtain ⟨a, vs, q, m, r⟩ := h
    exact ⟨a, vs, q, ⟨not_pre e m.1, m.2⟩, frz_repL e hg ds ds' vs fl r⟩
  | .lst ds, d', v, f, h => by
    obtain ⟨ds', fl, rfl⟩ := Option.map_eq_some_iff.mp (show (frzL g ds).map D.lst = some d' from f)
    obtain ⟨a, vs, q, m, r⟩ := h
    exact ⟨a, vs, q, ⟨not_pre e m.1, m.2⟩, frz_repL e hg ds ds' vs fl r⟩
  | .ft ds, d', v, f, h => by
    obtain ⟨ds', fl, rfl⟩ := Option.map_eq_some_iff.mp (show (frzL g ds).map D.ft = some d' from f)
    obtain ⟨a, vs, q, m, r⟩ := h
    exact ⟨a, vs, q, m.imp (fun z => ⟨not_pre e z.1, z.2⟩) id, frz_repL e hg ds ds' vs fl r⟩
  | .fl ds, d', v, f, h => by
    obtain ⟨ds', fl, rfl⟩ := Option.map_eq_some_iff.mp (show (frzL g ds).map D.fl = some d' from f)
    obtain ⟨a, vs, q, m, r⟩ := h
    exact ⟨a, vs, q, m.imp (fun z => ⟨not_pre e z.1, z.2⟩) id, frz_repL e hg ds ds' vs fl r⟩
  | .dk ks ds, d', v, f, h => by
    obtain ⟨ds', fl, rfl⟩ := Option.map_eq_some_iff.mp (show (frzL g ds).map (D.dk ks) = some d' from f)
    obtain ⟨a, vs, q, m, z, l, r⟩ := h
    exact ⟨a, vs, q, not_pre e m, z, l.trans (by rw [← r.length, ← (frz_repL e hg ds ds' vs fl r).length]), frz_repL e hg ds ds' vs fl r⟩
  | .dt ks ds, d', v, f, h => by
    obtain ⟨ds', fl, rfl⟩ := Option.map_eq_some_iff.mp (show (frzL g ds).map (D.dt ks) = some d' from f)
    obtain ⟨a, vs, q, m, z, l, r⟩ := h
    exact ⟨a, vs, q, not_pre e m, z, l.trans (by rw [← r.length, ← (frz_repL e hg ds ds' vs fl r).length]), frz_repL e hg ds ds' vs fl r⟩
  | .ins C fs ds, d', v, f, h => by
    obtain ⟨ds', fl, rfl⟩ := Option.map_eq_some_iff.mp (show (frzL g ds).map (D.ins C fs) = some d' from f)
    obtain ⟨a, dx, vs, q, m, z, l, b, r⟩ := h
    exact ⟨a, dx, vs, q, not_pre e m, z, l.trans (by rw [← r.length, ← (frz_repL e hg ds ds' vs fl r).length]), b, frz_repL e hg ds ds' vs fl r⟩
  | .ref n, d', v, f, h => by
    obtain ⟨a, rfl, z⟩ := h
    exact hg n d' a f z
theorem frz_repL {t : Mu} (e : μ1 = μ0 ++ t) {g : Nat → Option D} (hg : ∀ n d' a, g n = some d' → μ1[n]? = some a → Rep F μ0 H d' (.ref a)) :
    ∀ (ds ds' : List D) (vs : List V), frzL g ds = some ds' → RepL F μ1 H ds vs → RepL F μ0 H ds' vs
  | [], _, _, f, h => by cases f; exact h
  | d :: ds, ds', vs, f, h => by
    obtain ⟨d', f1, f2⟩ := Option.bind_eq_some_iff.mp (show (frzD g d).bind (fun d' => (frzL g ds).map (d' :: ·)) = some ds' from f)
    obtain ⟨ds'', f3, rfl⟩ := Option.map_eq_some_iff.mp f2
    obtain ⟨v, r, q, h1, h2⟩ := h
    exact ⟨v, r, q, frz_rep e hg d d' v f1 h1, frz_repL e hg ds ds'' r f3 h2⟩
end
theorem frzN_rep {t : Mu} {S : List O} (e : μ1 = μ0 ++ t) (rel : Rel F μ1 S H) : ∀ (k n : Nat) (d' : D) (a : Addr), frzN μ0.length S k n = some d' → μ1[n]? = some a → Rep F μ0 H d' (.ref a) := by
  have old : ∀ {n : Nat} {a : Addr}, n < μ0.length → μ1[n]? = some a → Rep F μ0 H (.ref n) (.ref a) := fun {n a} hn z => by
    rw [e, List.getElem?_append_left hn] at z
    exact ⟨a, rfl, z⟩
  intro k
  induction k with
  | zero =>
    intro n d' a f z
    unfold frzN at f
    split at f
    · rename_i hn; cases f; exact old hn z
    · cases f
  | succ k ih =>
    intro n d' a f z
    unfold frzN at f
    split at f
    · rename_i hn; cases f; exact old hn z
    · rename_i hn
      have na : a ∉ μ0 := fun m => by
        obtain ⟨j, hj, ej⟩ := List.mem_iff_getElem.mp m
        have hn1 : n < μ1.length := (List.getElem?_eq_some_iff.mp z).1
        have hj1 : j < μ1.length := by rw [e, List.length_append]; omega
        have e1 : μ1[j] = μ1[n] := by
          rw [(List.getElem?_eq_some_iff.mp z).2]
          have : μ1[j]? = some a := by rw [e, List.getElem?_append_left hj, List.getElem?_eq_getElem hj, ej]
          exact (List.getElem?_eq_some_iff.mp this).2
        have := (List.getElem_inj rel.nd).mp e1
        omega
      split at f
      · rename_i ds hs
        obtain ⟨ds', fl, rfl⟩ := Option.map_eq_some_iff.mp f
        obtain ⟨vs, q, r⟩ := rel.obj n _ a hs z
        exact ⟨a, vs, rfl, ⟨na, q⟩, frz_repL e ih ds ds' vs fl r⟩
      · rename_i ks ds hs
        obtain ⟨ds', fl, rfl⟩ := Option.map_eq_some_iff.mp f
        obtain ⟨vs, q, l, r⟩ := rel.obj n _ a hs z
        have r' := frz_repL e ih ds ds' vs fl r
        exact ⟨a, vs, rfl, na, q, l.trans (by rw [← r.length, ← r'.length]), r'⟩
      · rename_i ks ds hs
        obtain ⟨ds', fl, rfl⟩ := Option.map_eq_some_iff.mp f
        obtain ⟨vs, q, l, r⟩ := rel.obj n _ a hs z
        have r' := frz_repL e ih ds ds' vs fl r
        exact ⟨a, vs, rfl, na, q, l.trans (by rw [← r.length, ← r'.length]), r'⟩
      · rename_i C fs ds hs
        obtain ⟨ds', fl, rfl⟩ := Option.map_eq_some_iff.mp f
        obtain ⟨dx, vs, q, l, b, r⟩ := rel.obj n _ a hs z
        have r' := frz_repL e ih ds ds' vs fl r
        exact ⟨a, dx, vs, rfl, na, q, l.trans (by rw [← r.length, ← r'.length]), b, r'⟩
      · cases f
/-- the entry's objects stand on their own -/
theorem Rel.cut {H0 : Hp} {S0 S1 : List O} (rel0 : Rel F μ0 S0 H0) (x : Ext μ0 H0 μ1 H) (rel : Rel F μ1 S1 H) (g : gcOk S0 S1) : Rel F μ0 (S1.take S0.length) H := by
  obtain ⟨t, e⟩ := x.pre
  refine ⟨?_, rel0.nd, fun n o a e1 e2 => ?_⟩
  · rw [List.length_take, rel0.len]; exact (Nat.min_eq_left g.1).symm
  · have hn : n < S0.length := by
      have := (List.getElem?_eq_some_iff.mp e1).1
      rw [List.length_take] at this; omega
    have hn' : n < μ0.length := by rw [rel0.len]; exact hn
    rw [List.getElem?_take_of_lt hn] at e1
    have e2' : μ1[n]? = some a := x.get e2
    have h := rel.obj n o a e1 e2'
    have c : clO μ0.length o = true := by
      rcases g.2 n hn with z | ⟨o', z1, z2⟩
      · rw [z] at e1
        have h0 := rel0.obj n o a e1 e2
        cases o with
        | lst ds => obtain ⟨vs, q, r⟩ := h0; exact rep_clL ds vs r
        | dK ks ds => obtain ⟨vs, q, l, r⟩ := h0; exact rep_clL ds vs r
        | dT ks ds => obtain ⟨vs, q, l, r⟩ := h0; exact rep_clL ds vs r
        | ins C fs ds => obtain ⟨dx, vs, q, l, b, r⟩ := h0; exact rep_clL ds vs r
      · rw [z1] at e1; cases e1
        rw [rel0.len]; exact z2
    cases o with
    | lst ds => obtain ⟨vs, q, r⟩ := h; exact ⟨vs, q, cl_repL e ds vs c r⟩
    | dK ks ds => obtain ⟨vs, q, l, r⟩ := h; exact ⟨vs, q, l, cl_repL e ds vs c r⟩
    | dT ks ds => obtain ⟨vs, q, l, r⟩ := h; exact ⟨vs, q, l, cl_repL e ds vs c r⟩
    | ins C fs ds => obtain ⟨dx, vs, q, l, b, r⟩ := h; exact ⟨dx, vs, q, l, b, cl_repL e ds vs c r⟩
theorem Ext.cut {H0 : Hp} (x : Ext μ0 H0 μ1 H) : Ext μ0 H0 μ0 H := ⟨⟨[], by simp⟩, fun a o m e => ⟨(x.keep a o m e).1, m⟩⟩
theorem lookF_frz {g : Nat → Option D} : ∀ {fs : List Nat} {ds ds' : List D} {f : Nat} {d' : D}, frzL g ds = some ds' → lookF fs ds' f = some d' → ∃ d, lookF fs ds f = some d ∧ frzD g d = some d'
  | [], _, _, _, _, _, h => by unfold lookF at h; cases h
  | i :: fs, [], _, _, _, e, h => by cases e; unfold lookF at h; cases h
  | i :: fs, d :: ds, ds', f, d', e, h => by
    obtain ⟨d1, f1, f2⟩ := Option.bind_eq_some_iff.mp (show (frzD g d).bind (fun d' => (frzL g ds).map (d' :: ·)) = some ds' from e)
    obtain ⟨ds'', f3, rfl⟩ := Option.map_eq_some_iff.mp f2
    unfold lookF at h ⊢
    split at h
    · rename_i z; cases h; rw [if_pos z]; exact ⟨d, rfl, f1⟩
    · rename_i z; rw [if_neg z]; exact lookF_frz f3 h
theorem frzL_len {g : Nat → Option D} : ∀ {ds ds' : List D}, frzL g ds = some ds' → ds'.length = ds.length
  | [], _, e => by cases e; rfl
  | d :: ds, ds', e => by
    obtain ⟨d1, f1, f2⟩ := Option.bind_eq_some_iff.mp (show (frzD g d).bind (fun d' => (frzL g ds).map (d' :: ·)) = some ds' from e)
    obtain ⟨ds'', f3, rfl⟩ := Option.map_eq_some_iff.mp f2
    simp [frzL_len f3]
theorem gcSat {σ : L2.St} {W : WX} {S0 : List O} {r : R D} {Q : VK} (rel0 : Rel F μ0 S0 H) (h : Sat F μ0 H (gcR S0 r) σ W (PD F Q)) : Sat F μ0 H r σ W (PD F Q) := by
  cases r with
  | ok d S' =>
    unfold gcR at h
    dsimp only at h
    split at h
    · rename_i g
      split at h
      · rename_i d' hd
        intro μ1 H1 x rel v rv
        obtain ⟨t, e⟩ := x.pre
        rw [← rel0.len] at hd
        exact h μ0 H1 x.cut (rel0.cut x rel g) v (frz_rep e (frzN_rep e rel 6) d d' v hd rv)
      · exact h.elim
    · exact h.elim
  | ex x S' =>
    unfold gcR at h
    dsimp only at h
    split at h
    · rename_i g
      split at h
      · rename_i vs hd
        intro μ1 H1 cls dd e1 rel xr
        obtain ⟨t, e⟩ := e1.pre
        rw [← rel0.len] at hd
        refine h μ0 H1 cls dd e1.cut (rel0.cut e1 rel g) ?_
        obtain ⟨c1, ⟨c2, c3, c4⟩ | ⟨a, kvs, c2, c3, c4, cn, c5, c6, c7⟩⟩ := xr
        · refine ⟨c1, .inl ⟨c2, ?_, c4⟩⟩
          rw [c3] at hd; cases hd; rfl
        · refine ⟨c1, .inr ⟨a, kvs, c2, not_pre e c3, c4, cn, ?_, c6, fun f d' hl => ?_⟩⟩
          · show x.fs.length = vs.length
            rw [frzL_len hd]; exact c5
          · obtain ⟨d, hl', hf⟩ := lookF_frz hd hl
            obtain ⟨v, k1, k2⟩ := c7 f d hl'
            exact ⟨v, k1, frz_rep e (frzN_rep e rel 6) d d' v hf k2⟩
      · exact h.elim
    · exact h.elim
  | bad => exact h
end
section
variable {X : Cx} {F : Fx} {W : WX} {hi : Option Hi}
theorem sE_frz {e : Expr} {f : Env' → List O → R D} (h : PE X e (tE F W hi f)) : PE X e (tE F W hi fun ρ S => gcR S (f ρ S)) :=
  tE.frz h fun ρ μ S H σ Q rel q => gcSat rel q
theorem PE.bad {e : Expr} {f : Env' → List O → R D} (h : ∀ ρ S, f ρ S = .bad) : PE X e (tE F W hi f) :=
  ⟨fun pins s σ H Q I ⟨ρ, μ, S, _, _, q⟩ => by rw [h] at q; exact q.elim⟩
end
end Ev
end
section
set_option Elab.async false
set_option linter.all false
set_option maxRecDepth 100000
set_option maxHeartbeats 4000000
set_option autoImplicit false
/-! Ev, part I: caught errors, methods, targets, what is walked. -/
namespace Ev
open PySem PySem.Spec PyProof.Rows L2

section
variable {X : Cx} {F : Fx} {W : WX} {hi : Option Hi} {t : Ct}
/-! ### the caught error -/
theorem sE_xf {X0 : Cx} {h : Hi} {oe : Obj} {pn : List (Addr × Obj)} {i f : Nat} {x fn : Str} {p pos : Pos} (hX : X = X0.suite h.a ((h.a, oe) :: pn)) (hz : Zc h.cls h.d oe) (hfd : ∃ vs, oe.data = .fields vs)
    (hh : hi = some h) (hs : h.i = some i) (hN : X.N[i]? = some x) (hv : Vis X.env.scope x) (hd : (x == ("__debug__" : Str)) = false) (hcd : (x == ("__classdict__" : Str)) = false) (hf : F.nm f = fn)
    (hc : ∀ c, (t.xfs c).contains f = true → XfC X.K (F.ca c) ∧ PySem.W.findIn X.K (.ref (F.ca c)) (F.nm f) = some none ∧ f < F.an.length) :
    PE X (.Attribute (.Name x p) fn pos) (tE F W hi fun _ S => match hi.map (·.x) with
      | some x => (match lookF x.fs x.vs f with
        | some d => if (t.xfs x.c).contains f = true then .ok d S else .bad
        | none => .bad)
      | none => .bad) := by
  subst hh hX
  cases hl : lookF h.x.fs h.x.vs f with
  | none => exact PE.bad fun ρ S => by simp [hl]
  | some d =>
    cases hcf : (t.xfs h.x.c).contains f with
    | false => exact PE.bad fun ρ S => by simp only [Option.map_some, hl, hcf]; rfl
    | true =>
      obtain ⟨c1, c2, c3⟩ := hc _ hcf
      subst hf
      refine PE.imp (pe_xf c1 c2 hz hfd (pe_var hN hv hd hcd) (by rfl)) ?_
      intro σ H Q ⟨ρ, μ, S, e, rel, q⟩
      have q' : Sat F μ H (.ok d S) σ W (PD F Q) := by simpa only [Option.map_some, hl, hcf, if_pos] using q
      obtain ⟨⟨xc, xr⟩, hsl⟩ := e.2 h rfl
      refine ⟨_, (hsl i hs).1, rfl, xc, ?_⟩
      rcases xr with ⟨z1, _, _⟩ | ⟨a, kvs, z1, z2, z3, _, z4, z5, z6⟩
      · rw [z1] at hl; unfold lookF at hl; cases hl
      · obtain ⟨v, k1, k2⟩ := z6 f d hl
        exact ⟨a, kvs, v, z1, z3, k1, q'.here rel v k2⟩
theorem sE_xis {X0 : Cx} {h : Hi} {oe : Obj} {pn : List (Addr × Obj)} {i : Nat} {x : Str} {T : TyC} {ce : Expr} {cv : V} {u : Value} {p p2 pos : Pos} (hX : X = X0.suite h.a ((h.a, oe) :: pn)) (hz : Zc h.cls h.d oe) (hfd : ∃ vs, oe.data = .fields vs)
    (hh : hi = some h) (hs : h.i = some i) (hN : X.N[i]? = some x) (hv : Vis X.env.scope x) (hd : (x == ("__debug__" : Str)) = false) (hcd : (x == ("__classdict__" : Str)) = false)
    (hg : Gl X "isinstance") (hm : X.mg "isinstance" = none) (pc : PE X ce (tC cv)) (hu : ∀ w, RelV cv w → w = u) (hpc : plainA ce = true)
    (hc : ∀ c b, xisB t ⟨c, [], []⟩ T = some b → ExcC X.K (F.ca c) ∧ PySem.W.kitOne X.K (.ref (F.ca c)) u = some b) :
    PE X (.Call (.Name "isinstance" p) [.Name x p2, ce] [] pos) (tE F W hi fun _ S => match hi.map (·.x) with
      | some x => (match xisB t x T with
        | some b => if x.fs = [] then .ok (.bl b) S else .bad
        | none => .bad)
      | none => .bad) := by
  subst hh hX
  have hx0 : xisB t h.x T = xisB t ⟨h.x.c, [], []⟩ T := by cases T <;> rfl
  cases hb : xisB t h.x T with
  | none => exact PE.bad fun ρ S => by simp only [Option.map_some, hb]
  | some b =>
    by_cases hf : h.x.fs = []
    · by_cases hcl : h.cls = .ref (F.ca h.x.c) ∧ h.d = none
      · obtain ⟨c1, c2⟩ := hc h.x.c b (hx0 ▸ hb)
        have hz' : Zc (.ref (F.ca h.x.c)) none oe := by rw [← hcl.1, ← hcl.2]; exact hz
        have h2 : PA (X0.suite h.a ((h.a, oe) :: pn)) [.Name x p2, ce] (tCons (tVar i) (tCons (tC cv) tNil)) := pa_cons (pe_var hN hv hd hcd) (pa_cons pc pa_nil (star_is hpc)) (by rfl)
        refine PE.imp (pe_callB (call_isE c1 hz' hfd) hg hm (by rfl) h2 (by decide) (by decide) (by rfl) (star_any (by show (plainA ce && true) = true; rw [hpc]; rfl))) ?_
        intro σ H Q ⟨ρ, μ, S, e, rel, q⟩
        have q' : Sat F μ H (.ok (.bl b) S) σ W (PD F Q) := by simpa only [Option.map_some, hb, hf, if_pos] using q
        obtain ⟨⟨xc, xr⟩, hsl⟩ := e.2 h rfl
        exact ⟨_, (hsl i hs).1, cv, u, b, rfl, hu, c2, q'.here rel _ rfl⟩
      · refine ⟨fun pins s σ H Q I ⟨ρ, μ, S, e, rel, q⟩ => (hcl ?_).elim⟩
        obtain ⟨⟨xc, xr⟩, _⟩ := e.2 h rfl
        rcases xr with ⟨_, _, z⟩ | ⟨a, kvs, z1, z2, z3, zn, _⟩
        · exact ⟨xc, z⟩
        · exact (zn hf).elim
    · exact PE.bad fun ρ S => by simp only [Option.map_some, hb, if_neg hf]

/-! ### built-in methods -/
theorem mt_facts : ∀ m : MT, PlainAttrs m.ty ∧ Slot m.ty m.nm m.id ∧ typeOf (.builtin m.id) = pure (.type "method_descriptor")
  | .append => ⟨PySem.F.plainAttrs_list, PySem.F.slot_list_append, PySem.F.type_list_append⟩
  | .pop => ⟨PySem.F.plainAttrs_list, PySem.F.slot_list_pop, PySem.F.type_list_pop⟩
  | .extend => ⟨PySem.F.plainAttrs_list, PySem.F.slot_list_extend, PySem.F.type_list_extend⟩
  | .insert => ⟨PySem.F.plainAttrs_list, PySem.F.slot_list_insert, PySem.F.type_list_insert⟩
  | .lindex => ⟨PySem.F.plainAttrs_list, PySem.F.slot_list_index, PySem.F.type_list_index⟩
  | .lcount => ⟨PySem.F.plainAttrs_list, PySem.F.slot_list_count, PySem.F.type_list_count⟩
  | .tindex => ⟨PySem.F.plainAttrs_tuple, PySem.F.slot_tuple_index, PySem.F.type_tuple_index⟩
  | .join => ⟨PySem.F.plainAttrs_str, PySem.F.slot_str_join, PySem.F.type_str_join⟩
  | .scount => ⟨PySem.F.plainAttrs_str, PySem.F.slot_str_count, PySem.F.type_str_count⟩
  | .get => ⟨PySem.F.plainAttrs_dict, PySem.F.slot_dict_get, PySem.F.type_dict_get⟩
theorem star_all {pos : Pos} {env : Env} : ∀ {es : List Expr}, es.all plainA = true → (backTo pos (starEach es env)).all (fun x => !x.1) = true
  | [], _ => rfl
  | e :: es, h => by
    have h' := Bool.and_eq_true_iff.mp (show (plainA e && es.all plainA) = true from h)
    rw [star_is h'.1]
    show (!false && (backTo pos (starEach es env)).all fun x => !x.1) = true
    rw [star_all h'.2]; rfl
theorem sE_meth {m : MT} {nm : Str} {o e : Expr} {es : List Expr} {f : Env' → List O → R D} {g : Env' → List O → R (List D)} {apos cpos : Pos} (hk : F.K = X.K) (hu : X.A.units + 64 < cLine) (hmt : m ≠ .tindex) (hnm : m.nm = nm)
    (ho : PE X o (tE F W hi f)) (ha : PA X (e :: es) (tA F W hi g)) (hpo : plainB o = true) (hp : (e :: es).all plainA = true) (hfew : decide ((e :: es).length < 30) = true) (hline : (apos.endLine == cpos.line) = true) :
    PE X (.Call (.Attribute o nm apos) (e :: es) [] cpos) (tE F W hi fun ρ S => (f ρ S).bind fun x S => if m.at S x = true then (g ρ S).bind fun ds S => (methD m x ds S).prim else .bad) := by
  have h' := Bool.and_eq_true_iff.mp (show (plainA e && es.all plainA) = true from hp)
  obtain ⟨f1, f2, f3⟩ := mt_facts m
  subst hnm
  refine PE.imp (pe_bm f1 f2 f3 (mt_S hk hu m) ho ha (plainB_is hpo) ?_ hline (star_is h'.1) (star_any h'.2)) ?_
  · rw [star_all hp]
    show (true && (true && decide _)) = true
    rw [Bool.true_and, Bool.true_and]
    exact hfew
  · intro σ H Q ⟨ρ, μ, S, e, rel, q⟩
    refine tE.goP e rel q fun d μ1 S1 H1 v x1 e1 r1 rd q1 => ?_
    have q2 : Sat F μ1 H1 (if m.at S1 d = true then (g ρ S1).bind fun ds S => (methD m d ds S).prim else .bad) σ W (PD F Q) := q1
    split at q2
    · rename_i hm
      exact ⟨at_ty hk m r1 rd hm hmt, tA.goP e1 r1 q2 fun ds μ2 S2 H2 vs x2 e2 r2 rds q3 => ⟨μ2, S2, d, ds, r2, rd.mono x2, rds, q3.p1⟩⟩
    · exact q2.elim
theorem sE_meth0 {m : MT} {nm : Str} {o : Expr} {f : Env' → List O → R D} {apos cpos : Pos} (hk : F.K = X.K) (hu : X.A.units + 64 < cLine) (hmt : m ≠ .tindex) (hnm : m.nm = nm)
    (ho : PE X o (tE F W hi f)) (hpo : plainB o = true) (hline : (apos.endLine == cpos.line) = true) :
    PE X (.Call (.Attribute o nm apos) [] [] cpos) (tE F W hi fun ρ S => (f ρ S).bind fun x S => if m.at S x = true then (R.ok [] S).bind fun ds S => (methD m x ds S).prim else .bad) := by
  obtain ⟨f1, f2, f3⟩ := mt_facts m
  subst hnm
  refine PE.imp (pe_bm0 f1 f2 f3 (mt_S hk hu m) ho (plainB_is hpo) hline) ?_
  intro σ H Q ⟨ρ, μ, S, e, rel, q⟩
  refine tE.goP e rel q fun d μ1 S1 H1 v x1 e1 r1 rd q1 => ?_
  have q2 : Sat F μ1 H1 (if m.at S1 d = true then (methD m d [] S1).prim else .bad) σ W (PD F Q) := q1
  split at q2
  · rename_i hm
    exact ⟨at_ty hk m r1 rd hm hmt, μ1, S1, d, [], r1, rd, rfl, q2.p1⟩
  · exact q2.elim

/-! ### what is walked -/
def iAny (K : PySem.W.Frag) (te : TE) : TI := fun σ H R => te σ H fun x H1 => (∃ a, x = .ref a ∧ (∃ xs, SqL K H1 a xs) ∧ R (Itl K a) H1) ∨ (∃ a, x = .ref a ∧ (∃ xs, SqT K H1 a xs) ∧ R (Itt K a) H1) ∨ (∃ z, x = .str z ∧ R (Its z) H1)
theorem pi_any {tg l : Expr} {tl : TE} (hl : PE X l tl) : PI X tg l (iAny X.K tl) := by
  refine ⟨fun pins s σ H R I h => ?_⟩
  refine thn (hl.run pins s σ H _ I h) fun v s1 ⟨x, H1, I1, r1, q1⟩ => ?_
  rcases q1 with ⟨a, e, ⟨xs, hq⟩, q⟩ | ⟨a, e, ⟨xs, hq⟩, q⟩ | ⟨z, e, q⟩
  · subst e
    cases r1
    obtain ⟨its, rv, p, hz⟩ := I1.list hq
    refine wpAny_pyIter_list p.isList ?_
    refine ⟨s1.heap.objs.size, [s1.heap.objs.size], _, _, H1, rfl, I1.kept (t' := s1.toks) fun b o e => Heap.get?_push_of_some _ e, turn_list a _, ⟨_, Heap.get?_push_size _ rfl, rfl, rfl⟩, fun b hb => ?_, q⟩
    have e : b = s1.heap.objs.size := by simpa using hb
    subst e
    exact I1.fpOk (Nat.le_refl _) (I1.hok.fresh (Nat.le_refl _))
  · subst e
    cases r1
    obtain ⟨its, rv, p, hz⟩ := I1.tuple hq
    refine wpAny_pyIter_tuple (show s1.heap.IsTuple a its.toArray from p) ?_
    refine ⟨s1.heap.objs.size, [s1.heap.objs.size], _, _, H1, rfl, I1.kept (t' := s1.toks) fun b o e => Heap.get?_push_of_some _ e, turn_tuple a _, ⟨_, Heap.get?_push_size _ rfl, rfl, rfl⟩, fun b hb => ?_, q⟩
    have e : b = s1.heap.objs.size := by simpa using hb
    subst e
    exact I1.fpOk (Nat.le_refl _) (I1.hok.fresh (Nat.le_refl _))
  · subst e
    obtain ⟨t, rfl⟩ := r1
    cases ha : z.cps.all (· < 128)
    · exact wpAny_pyIter_wide ha (pi_one (tk := s1.toks) I1 _ (turn_str _ z t "str_iterator" (.inr rfl)) ⟨_, Heap.get?_push_size _ rfl, rfl, rfl⟩ q)
    · exact wpAny_pyIter_ascii ha (pi_one (tk := s1.toks) I1 _ (turn_str _ z t "str_ascii_iterator" (.inl rfl)) ⟨_, Heap.get?_push_size _ rfl, rfl, rfl⟩ q)
/-- the side that a value is -/
def SdR (F : Fx) (μ : Mu) (S : List O) (H : Hp) (s : Src) (sd : Sd) : Prop :=
  ∀ μ' S' H', Ext μ H μ' H' → Rel F μ' S' H' → gdOk S' s.gd →
    sd.stop F.K H' s.its.length ∧ ∀ (i : Nat) (d : D), s.its[i]? = some d → sd.go F.K H' i ∧ ∀ x, sd.at F.K H' i x → Rep F μ' H' d x
theorem gdOk_app : ∀ {a b : List (Nat × List D)} {S : List O}, gdOk S (a ++ b) → gdOk S a ∧ gdOk S b
  | [], b, S, h => ⟨trivial, h⟩
  | g :: a, b, S, h => ⟨⟨h.1, (gdOk_app h.2).1⟩, (gdOk_app h.2).2⟩
theorem sd_of {μ : Mu} {S : List O} {H : Hp} {d : D} {x : V} {s : Src} (rel : Rel F μ S H) (rd : Rep F μ H d x) (h : srcOf S d = some s) : ∃ sd : Sd, x = sd.v ∧ sd.ok F.K H ∧ SdR F μ S H s sd := by
  have key : ∀ {ds : List D} {a : Addr} {vs : List V}, (SqL F.K H a vs ∧ (∀ μ' H', Ext μ H μ' H' → SqL F.K H' a vs)) ∨ (SqT F.K H a vs ∧ (∀ μ' H', Ext μ H μ' H' → SqT F.K H' a vs)) → RepL F μ H ds vs → ∃ sd : Sd, V.ref a = sd.v ∧ sd.ok F.K H ∧ SdR F μ S H ⟨ds, []⟩ sd := by
    intro ds a vs hq r
    rcases hq with ⟨q, k⟩ | ⟨q, k⟩
    · refine ⟨.l a, rfl, ⟨vs, q⟩, fun μ' S' H' x r' g => ⟨⟨vs, k μ' H' x, r.length⟩, fun i d e => ?_⟩⟩
      obtain ⟨v, e1, e2⟩ := r.get e
      exact ⟨⟨vs, v, k μ' H' x, e1⟩, fun y hy => by
        have := hy vs (k μ' H' x)
        rw [e1] at this; cases this; exact e2.mono x⟩
    · refine ⟨.t a, rfl, ⟨vs, q⟩, fun μ' S' H' x r' g => ⟨⟨vs, k μ' H' x, r.length⟩, fun i d e => ?_⟩⟩
      obtain ⟨v, e1, e2⟩ := r.get e
      exact ⟨⟨vs, v, k μ' H' x, e1⟩, fun y hy => by
        have := hy vs (k μ' H' x)
        rw [e1] at this; cases this; exact e2.mono x⟩
  cases d with
  | str cs =>
    cases h
    cases (show _ = _ from rd)
    refine ⟨.s (mkS cs), rfl, trivial, fun μ' S' H' x r g => ⟨by show (mkS cs).cps.size = _; simp, fun i d' e => ?_⟩⟩
    have e0 : (cs.map fun c => D.str [c])[i]? = some d' := e
    rw [List.getElem?_map] at e0
    obtain ⟨c, e1, rfl⟩ := Option.map_eq_some_iff.mp e0
    have e2 : (mkS cs).cps[i]? = some c := by simpa using e1
    refine ⟨⟨c, e2⟩, fun y hy => ?_⟩
    obtain ⟨c', q1, q2⟩ := hy
    rw [e2] at q1; cases q1
    exact q2
  | ref n =>
    obtain ⟨a, rfl, hm⟩ := rd
    unfold srcOf at h
    dsimp only at h
    split at h
    · rename_i ds hn
      cases h
      obtain ⟨vs, q, r⟩ := rel.obj n _ a hn hm
      refine ⟨.l a, rfl, ⟨vs, SqL.of q⟩, fun μ' S' H' x r' g => ?_⟩
      have g1 := g.1
      dsimp only at g1
      split at g1
      · rename_i ds' hn'
        subst g1
        obtain ⟨vs', q', rr⟩ := r'.obj n _ a hn' (x.get hm)
        refine ⟨⟨vs', SqL.of q', rr.length⟩, fun i d e => ?_⟩
        obtain ⟨v, e1, e2⟩ := rr.get e
        exact ⟨⟨vs', v, SqL.of q', e1⟩, fun y hy => by
          have := hy vs' (SqL.of q')
          rw [e1] at this; cases this; exact e2⟩
      · exact g1.elim
    · cases h
  | tup ds =>
    cases h
    obtain ⟨a, vs, rfl, q, r⟩ := rd
    exact key (.inr ⟨SqT.of q.2, fun μ' H' x => SqT.of (x.keep a _ q.1 q.2).1⟩) r
  | ft ds =>
    cases h
    obtain ⟨a, vs, rfl, q, r⟩ := rd
    exact key (.inr ⟨q.imp (·.2) id, fun μ' H' x => q.imp (fun z => (x.rd z).2) id⟩) r
  | lst ds =>
    cases h
    obtain ⟨a, vs, rfl, q, r⟩ := rd
    exact key (.inl ⟨SqL.of q.2, fun μ' H' x => SqL.of (x.keep a _ q.1 q.2).1⟩) r
  | fl ds =>
    cases h
    obtain ⟨a, vs, rfl, q, r⟩ := rd
    exact key (.inl ⟨q.imp (·.2) id, fun μ' H' x => q.imp (fun z => (x.rd z).2) id⟩) r
  | non => cases h
  | bl b => cases h
  | int i => cases h
  | dk ks ds => cases h
  | dt ks ds => cases h
  | ins C fs ds => cases h
  | cls x => cases h
theorem sI_of {e tg : Expr} {f : Env' → List O → R D} (hk : F.K = X.K) (he : PE X e (tE F W hi f)) : PI X tg e (tI F W hi fun ρ S => (f ρ S).bind fun d S => ofS d S) :=
  PI.imp (pi_any he) fun σ H R ⟨ρ, μ, S, e, rel, q⟩ => tE.goP e rel q fun d μ1 S1 H1 v x1 e1 r1 rd q1 => by
    have q2 : Sat F μ1 H1 (ofS d S1) σ W fun s μ' _ H' => ∀ J, ItOk F μ' H' s J → R J H' := q1
    unfold ofS at q2
    split at q2
    · rename_i s hs
      obtain ⟨sd, rfl, ok, hr⟩ := sd_of r1 rd hs
      have q3 := q2.here r1
      cases sd with
      | l a =>
        refine .inl ⟨a, rfl, hk ▸ ok, q3 _ fun μ' S' H' x r g => ?_⟩
        obtain ⟨⟨xs, k1, k2⟩, h2⟩ := hr μ' S' H' x r g
        refine ⟨⟨xs, hk ▸ k1, by omega⟩, fun i d e => ?_⟩
        obtain ⟨g1, g2⟩ := h2 i d e
        exact ⟨hk ▸ g1, fun y H3 ⟨hy, hat⟩ => by subst hy; exact ⟨Ext.refl _ _, r, g2 y (hk ▸ hat)⟩⟩
      | t a =>
        refine .inr (.inl ⟨a, rfl, hk ▸ ok, q3 _ fun μ' S' H' x r g => ?_⟩)
        obtain ⟨⟨xs, k1, k2⟩, h2⟩ := hr μ' S' H' x r g
        refine ⟨⟨xs, hk ▸ k1, by omega⟩, fun i d e => ?_⟩
        obtain ⟨g1, g2⟩ := h2 i d e
        exact ⟨hk ▸ g1, fun y H3 ⟨hy, hat⟩ => by subst hy; exact ⟨Ext.refl _ _, r, g2 y (hk ▸ hat)⟩⟩
      | s z =>
        refine .inr (.inr ⟨z, rfl, q3 _ fun μ' S' H' x r g => ?_⟩)
        obtain ⟨h1, h2⟩ := hr μ' S' H' x r g
        refine ⟨Nat.le_of_eq h1, fun i d e => ?_⟩
        obtain ⟨⟨c, g1⟩, g2⟩ := h2 i d e
        exact ⟨(Array.getElem?_eq_some_iff.mp g1).1, fun y H3 ⟨hy, hat⟩ => by subst hy; exact ⟨Ext.refl _ _, r, g2 y hat⟩⟩
    · exact q2.elim
theorem rngL_len : ∀ (lo : Int) (n : Nat), (rngL lo n).length = n
  | _, 0 => rfl
  | lo, n + 1 => by show (rngL (lo + 1) n).length + 1 = n + 1; rw [rngL_len]
theorem rngL_get : ∀ (lo : Int) (n i : Nat) (d : D), (rngL lo n)[i]? = some d → i < n ∧ d = .int (lo + i)
  | _, 0, _, _, h => by simp [rngL] at h
  | lo, n + 1, 0, d, h => by
    have : some (D.int lo) = some d := h
    cases this
    exact ⟨by omega, by simp⟩
  | lo, n + 1, i + 1, d, h => by
    obtain ⟨h1, h2⟩ := rngL_get (lo + 1) n i d h
    refine ⟨by omega, ?_⟩
    rw [h2]
    congr 1
    omega
theorem rng_ok {μ : Mu} {H : Hp} {lo : Int} {n : Nat} : ItOk F μ H ⟨rngL lo n, []⟩ (Itr lo n) := fun μ' S' H' x r g => by
  refine ⟨by show n ≤ _; rw [rngL_len]; exact Nat.le_refl _, fun i d e => ?_⟩
  obtain ⟨h1, h2⟩ := rngL_get lo n i d e
  exact ⟨h1, fun y H3 ⟨hy, hv⟩ => by subst hy hv h2; exact ⟨Ext.refl _ _, r, rfl⟩⟩
theorem sI_rng {a tg : Expr} {f : Env' → List O → R D} {p pos : Pos} (hg : Gl X "range") (hm : X.mg "range" = none) (ha : PE X a (tE F W hi f)) (hp : plainA a = true) :
    PI X tg (.Call (.Name "range" p) [a] [] pos) (tI F W hi fun ρ S => (f ρ S).bind fun x S => rngS (.int 0) x S) :=
  PI.imp (pi_range1 hg hm (pa_cons ha pa_nil (star_is hp)) (star_is hp)) fun σ H R ⟨ρ, μ, S, e, rel, q⟩ => tE.goP e rel q fun d μ1 S1 H1 v x1 e1 r1 rd q1 => by
    have q2 : Sat F μ1 H1 (rngS (.int 0) d S1) σ W fun s μ' _ H' => ∀ J, ItOk F μ' H' s J → R J H' := q1
    unfold rngS at q2
    split at q2
    · rename_i i j j2 hj
      injection hj with hj
      subst hj
      cases rep_int rd
      split at q2
      · rename_i hb
        exact ⟨j2, rfl, (inR_b hb.2).1, (inR_b hb.2).2, q2.here r1 _ (by simpa using rng_ok)⟩
      · exact q2.elim
    · exact q2.elim
theorem sI_rng2 {a b tg : Expr} {f g : Env' → List O → R D} {p pos : Pos} (hg : Gl X "range") (hm : X.mg "range" = none) (ha : PE X a (tE F W hi f)) (hb : PE X b (tE F W hi g)) (hp : plainA a = true) (hp2 : plainA b = true) :
    PI X tg (.Call (.Name "range" p) [a, b] [] pos) (tI F W hi fun ρ S => (f ρ S).bind fun x S => (g ρ S).bind fun y S => rngS x y S) :=
  PI.imp (pi_range2 hg hm (pa_cons ha (pa_cons hb pa_nil (star_is hp2)) (star_is hp)) (by rw [star_is hp, star_is hp2]; rfl) (by rw [star_is hp2]; rfl)) fun σ H R ⟨ρ, μ, S, e, rel, q⟩ =>
    tE.goP e rel q fun d μ1 S1 H1 v x1 e1 r1 rd q1 => tE.goP e1 r1 q1 fun d2 μ2 S2 H2 v2 x2 e2 r2 rd2 q2 => by
      have q3 : Sat F μ2 H2 (rngS d d2 S2) σ W fun s μ' _ H' => ∀ J, ItOk F μ' H' s J → R J H' := q2
      unfold rngS at q3
      split at q3
      · cases rep_int rd
        cases rep_int rd2
        split at q3
        · rename_i hb
          exact ⟨_, _, rfl, ⟨(inR_b hb.1).1, (inR_b hb.1).2, (inR_b hb.2).1, (inR_b hb.2).2⟩, q3.here r2 _ rng_ok⟩
        · exact q3.elim
      · exact q3.elim
theorem enmL_get : ∀ (k : Nat) (ds : List D) (i : Nat) (d : D), (enmL k ds)[i]? = some d → ∃ x, ds[i]? = some x ∧ d = .tup [.int ((k + i : Nat) : Int), x]
  | _, [], _, _, h => by simp [enmL] at h
  | k, x :: ds, 0, d, h => by
    have : some (D.tup [.int (k : Int), x]) = some d := h
    cases this
    exact ⟨x, rfl, rfl⟩
  | k, x :: ds, i + 1, d, h => by
    obtain ⟨y, h1, h2⟩ := enmL_get (k + 1) ds i d h
    exact ⟨y, h1, by rw [h2, show k + 1 + i = k + (i + 1) from by omega]⟩
theorem enmL_len : ∀ (k : Nat) (ds : List D), (enmL k ds).length = ds.length
  | _, [] => rfl
  | k, x :: ds => by show (enmL (k + 1) ds).length + 1 = ds.length + 1; rw [enmL_len]
theorem sI_enm {a : Expr} {elts : List Expr} {kk : Nat} {f : Env' → List O → R D} {tpos p pos : Pos} (hk : F.K = X.K) (hg : Gl X "enumerate") (hm : X.mg "enumerate" = none) (ha : PE X a (tE F W hi f)) (hp : plainA a = true) :
    PI X (.Tuple elts kk tpos) (.Call (.Name "enumerate" p) [a] [] pos) (tI F W hi fun ρ S => (f ρ S).bind fun x S => (ofS x S).bind fun s S => .ok (enmS s) S) :=
  PI.imp (pi_enumG hg hm (pa_cons ha pa_nil (star_is hp)) (star_is hp)) fun σ H R ⟨ρ, μ, S, e, rel, q⟩ => tE.goP e rel q fun d μ1 S1 H1 v x1 e1 r1 rd q1 => by
    have q2 : Sat F μ1 H1 ((ofS d S1).bind fun s S => .ok (enmS s) S) σ W fun s μ' _ H' => ∀ J, ItOk F μ' H' s J → R J H' := q1
    unfold ofS at q2
    split at q2
    · rename_i s hs
      obtain ⟨sd, rfl, ok, hr⟩ := sd_of r1 rd hs
      refine ⟨sd, rfl, hk ▸ ok, Sat.here (σ := σ) (W := W) (P := fun s μ' _ H' => ∀ J, ItOk F μ' H' s J → R J H') q2 r1 _ fun μ' S' H' x r g => ?_⟩
      obtain ⟨h1, h2⟩ := hr μ' S' H' x r g
      refine ⟨by show Sd.stop _ _ (enmL 0 s.its).length sd; rw [enmL_len]; exact hk ▸ h1, fun i d e => ?_⟩
      obtain ⟨y, k1, rfl⟩ := enmL_get 0 s.its i d e
      obtain ⟨g1, g2⟩ := h2 i y k1
      refine ⟨hk ▸ g1, fun w H3 ⟨T, z, e1, e2, e3, e4⟩ => ?_⟩
      subst e1 e3
      refine ⟨Ext.laid e2, r.laid e2, T, [.int (i : Nat), z], rfl, ⟨r.fresh e2, upd_same⟩, .int (i : Nat), [z], rfl, ?_, z, [], rfl, (g2 z (hk ▸ e4)).mono (Ext.laid e2), rfl⟩
      show V.int _ = V.int _
      rw [Nat.zero_add]
    · exact q2.elim
theorem sI_zip {a b : Expr} {elts : List Expr} {kk : Nat} {f g : Env' → List O → R D} {tpos p pos : Pos} (hk : F.K = X.K) (hg : Gl X "zip") (hm : X.mg "zip" = none) (ha : PE X a (tE F W hi f)) (hb : PE X b (tE F W hi g)) (hp : plainA a = true) (hp2 : plainA b = true) :
    PI X (.Tuple elts kk tpos) (.Call (.Name "zip" p) [a, b] [] pos) (tI F W hi fun ρ S => (f ρ S).bind fun x S => (g ρ S).bind fun y S => (ofS x S).bind fun s S => (ofS y S).bind fun s' S => .ok (zipS s s') S) :=
  PI.imp (pi_zipG hg hm (pa_cons ha (pa_cons hb pa_nil (star_is hp2)) (star_is hp)) (star_is hp) (star_any (by show (plainA b && true) = true; rw [hp2]; rfl))) fun σ H R ⟨ρ, μ, S, e, rel, q⟩ =>
    tE.goP e rel q fun d μ1 S1 H1 v x1 e1 r1 rd q1 => tE.goP e1 r1 q1 fun d2 μ2 S2 H2 v2 x2 e2 r2 rd2 q2 => by
      have q3 : Sat F μ2 H2 ((ofS d S2).bind fun s S => (ofS d2 S).bind fun s' S => .ok (zipS s s') S) σ W fun s μ' _ H' => ∀ J, ItOk F μ' H' s J → R J H' := q2
      unfold ofS at q3
      split at q3
      · rename_i s hs
        have q4 : Sat F μ2 H2 ((match srcOf S2 d2 with
          | some s => Ev.R.ok s S2
          | none => Ev.R.bad).bind fun s' S => .ok (zipS s s') S) σ W fun s μ' _ H' => ∀ J, ItOk F μ' H' s J → R J H' := q3
        split at q4
        · rename_i s' hs'
          obtain ⟨sd, rfl, ok, hr⟩ := sd_of r2 (rd.mono x2) hs
          obtain ⟨sd', rfl, ok', hr'⟩ := sd_of r2 rd2 hs'
          refine ⟨sd, sd', rfl, hk ▸ ok, hk ▸ ok', Sat.here (σ := σ) (W := W) (P := fun s μ' _ H' => ∀ J, ItOk F μ' H' s J → R J H') q4 r2 _ fun μ' S' H' x r g => ?_⟩
          obtain ⟨g1, g2⟩ := gdOk_app g
          obtain ⟨h1, h2⟩ := hr μ' S' H' x r g1
          obtain ⟨h1', h2'⟩ := hr' μ' S' H' x r g2
          have goA : ∀ j, j < s.its.length → Sd.go X.K H' j sd := fun j hj => hk ▸ (h2 j _ (List.getElem?_eq_getElem hj)).1
          have goB : ∀ j, j < s'.its.length → Sd.go X.K H' j sd' := fun j hj => hk ▸ (h2' j _ (List.getElem?_eq_getElem hj)).1
          refine ⟨?_, fun i d e => ?_⟩
          · have hl : (zipS s s').its.length = min s.its.length s'.its.length := by show List.length (List.map _ _) = _; rw [List.length_map, List.length_zip]
            rw [hl]
            rcases Nat.lt_trichotomy s.its.length s'.its.length with z | z | z
            · rw [Nat.min_eq_left (Nat.le_of_lt z)]
              exact .inl ⟨hk ▸ h1, .inr (goB _ z)⟩
            · rw [z, Nat.min_self]
              exact .inl ⟨z ▸ hk ▸ h1, .inl (hk ▸ h1')⟩
            · rw [Nat.min_eq_right (Nat.le_of_lt z)]
              exact .inr ⟨hk ▸ h1', .inr (goA _ z)⟩
          · have e0 : ((s.its.zip s'.its).map fun p => D.tup [p.1, p.2])[i]? = some d := e
            rw [List.getElem?_map] at e0
            obtain ⟨⟨y, y'⟩, k1, rfl⟩ := Option.map_eq_some_iff.mp e0
            obtain ⟨k2, k3⟩ := List.getElem?_zip_eq_some.mp k1
            obtain ⟨a1, a2⟩ := h2 i y k2
            obtain ⟨b1, b2⟩ := h2' i y' k3
            refine ⟨⟨hk ▸ a1, hk ▸ b1⟩, fun w H3 ⟨T, z, z', e1, e2, e3, e4, e5⟩ => ?_⟩
            subst e1 e3
            exact ⟨Ext.laid e2, r.laid e2, T, [z, z'], rfl, ⟨r.fresh e2, upd_same⟩, z, [z'], rfl, (a2 z (hk ▸ e4)).mono (Ext.laid e2), z', [], rfl, (b2 z' (hk ▸ e5)).mono (Ext.laid e2), rfl⟩
        · exact q4.elim
      · exact q3.elim
end
end Ev
end
section
set_option Elab.async false
set_option linter.all false
set_option maxRecDepth 100000
set_option maxHeartbeats 4000000
set_option autoImplicit false
/-! Ev, part J: targets, comprehensions. -/
namespace Ev
open PySem PySem.Spec PyProof.Rows L2

def lenTs : Ts → Nat
  | .nil => 0
  | .cons _ r => lenTs r + 1
mutual
def tgG (K : PySem.W.Frag) : T → TG
  | .nm i => gName i
  | .tup ts => gTup K (lenTs ts) (tgGs K ts)
def tgGs (K : PySem.W.Frag) : Ts → TGs
  | .nil => gNil
  | .cons t r => gCons (tgG K t) (tgGs K r)
end
mutual
def tSl : T → List Nat
  | .nm i => [i]
  | .tup ts => tSls ts
def tSls : Ts → List Nat
  | .nil => []
  | .cons t r => tSl t ++ tSls r
end
def Agr {α : Type} (L : List Nat) (x y : List α) : Prop := y.length = x.length ∧ ∀ j : Nat, j ∉ L → y[j]? = x[j]?
theorem Agr.refl {α : Type} {L : List Nat} (x : List α) : Agr L x x := ⟨rfl, fun _ _ => rfl⟩
theorem Agr.set {α : Type} {i : Nat} {x : List α} {a : α} : Agr [i] x (x.set i a) := ⟨by simp, fun j h => List.getElem?_set_ne (fun z => h (by simp [z]))⟩
theorem Agr.trans {α : Type} {L L' : List Nat} {x y z : List α} (a : Agr L x y) (b : Agr L' y z) : Agr (L ++ L') x z :=
  ⟨b.1.trans a.1, fun j h => (b.2 j fun m => h (List.mem_append_right _ m)).trans (a.2 j fun m => h (List.mem_append_left _ m))⟩
section
variable {F : Fx} {μ : Mu} {H : Hp}
theorem ERep.set {ρ : Env'} {σ : L2.St} {i : Nat} {d : D} {v : V} (e : ERep F μ H ρ σ) (r : Rep F μ H d v) : ERep F μ H (ρ.set i (some d)) (σ.set i (some v)) := by
  refine ⟨by simp [e.1], fun j d' h => ?_⟩
  by_cases hj : i = j
  · subst hj
    have hl : i < ρ.length := by
      rcases Nat.lt_or_ge i ρ.length with z | z
      · exact z
      · rw [List.getElem?_eq_none (by simpa using z)] at h; cases h
    rw [List.getElem?_set_self hl] at h
    cases h
    exact ⟨v, List.getElem?_set_self (by rw [← e.1]; exact hl), r⟩
  · rw [List.getElem?_set_ne hj] at h ⊢
    exact e.2 j d' h
mutual
theorem asT_go : ∀ (t : T) (d : D) (ρ ρ' : Env') (σ : L2.St) (v : V) (Q : L2.St → Hp → Prop), asT t d ρ = some ρ' → ERep F μ H ρ σ → Rep F μ H d v →
    (∀ σ', ERep F μ H ρ' σ' → Agr (tSl t) σ σ' → Agr (tSl t) ρ ρ' → Q σ' H) → tgG F.K t v σ H Q
  | .nm i, d, ρ, ρ', σ, v, Q, h, e, r, k => by
    cases h
    exact k _ (e.set r) Agr.set Agr.set
  | .tup ts, d, ρ, ρ', σ, v, Q, h, e, r, k => by
    cases d with
    | tup ds =>
      obtain ⟨a, vs, rfl, q, rr⟩ := Rep.seqT r
      obtain ⟨hl, g⟩ := asTs_go ts ds ρ ρ' σ vs Q h e rr k
      exact ⟨a, vs, rfl, q, hl, g⟩
    | ft ds =>
      obtain ⟨a, vs, rfl, q, rr⟩ := Rep.seqF r
      obtain ⟨hl, g⟩ := asTs_go ts ds ρ ρ' σ vs Q h e rr k
      exact ⟨a, vs, rfl, q, hl, g⟩
    | _ => cases h
theorem asTs_go : ∀ (ts : Ts) (ds : List D) (ρ ρ' : Env') (σ : L2.St) (vs : List V) (Q : L2.St → Hp → Prop), asTs ts ds ρ = some ρ' → ERep F μ H ρ σ → RepL F μ H ds vs →
    (∀ σ', ERep F μ H ρ' σ' → Agr (tSls ts) σ σ' → Agr (tSls ts) ρ ρ' → Q σ' H) → vs.length = lenTs ts ∧ tgGs F.K ts vs σ H Q
  | .nil, [], ρ, ρ', σ, vs, Q, h, e, r, k => by
    cases h
    cases (show _ = _ from r)
    exact ⟨rfl, rfl, k _ e (Agr.refl _) (Agr.refl _)⟩
  | .cons t r, d :: ds, ρ, ρ', σ, vs, Q, h, e, rr, k => by
    obtain ⟨ρ1, h1, h2⟩ := Option.bind_eq_some_iff.mp (show (asT t d ρ).bind (fun ρ' => asTs r ds ρ') = some ρ' from h)
    obtain ⟨v, vr, rfl, q1, q2⟩ := rr
    have hl : ∀ σ1, ERep F μ H ρ1 σ1 → vr.length = lenTs r := fun σ1 e1 => (asTs_go r ds ρ1 ρ' σ1 vr (fun _ _ => True) h2 e1 q2 fun _ _ _ _ => trivial).1
    have ht : tgG F.K t v σ H fun σ1 H1 => vr.length = lenTs r ∧ tgGs F.K r vr σ1 H1 Q := asT_go t d ρ ρ1 σ v _ h1 e q1 fun σ1 e1 a1 b1 => asTs_go r ds ρ1 ρ' σ1 vr Q h2 e1 q2 fun σ2 e2 a2 b2 => k σ2 e2 (a1.trans a2) (b1.trans b2)
    refine ⟨?_, v, vr, rfl, asT_go t d ρ ρ1 σ v _ h1 e q1 fun σ1 e1 a1 b1 => (asTs_go r ds ρ1 ρ' σ1 vr Q h2 e1 q2 fun σ2 e2 a2 b2 => k σ2 e2 (a1.trans a2) (b1.trans b2)).2⟩
    show vr.length + 1 = lenTs r + 1
    have := asTs_len r ds ρ1 ρ' h2
    have := q2.length
    omega
  | .nil, _ :: _, _, _, _, _, _, h, _, _, _ => by cases h
  | .cons _ _, [], _, _, _, _, _, h, _, _, _ => by cases h
theorem asTs_len : ∀ (ts : Ts) (ds : List D) (ρ ρ' : Env'), asTs ts ds ρ = some ρ' → ds.length = lenTs ts
  | .nil, [], _, _, _ => rfl
  | .cons t r, d :: ds, ρ, ρ', h => by
    obtain ⟨ρ1, h1, h2⟩ := Option.bind_eq_some_iff.mp (show (asT t d ρ).bind (fun ρ' => asTs r ds ρ') = some ρ' from h)
    show ds.length + 1 = lenTs r + 1
    rw [asTs_len r ds ρ1 ρ' h2]
  | .nil, _ :: _, _, _, h => by cases h
  | .cons _ _, [], _, _, h => by cases h
end
theorem wipe_get (σ : L2.St) : ∀ (vs : List Nat) (j : Nat), (wipe σ vs)[j]? = if j ∈ vs then (if j < σ.length then some none else none) else σ[j]?
  | [], j => by simp [wipe]
  | v :: vs, j => by
    show ((wipe σ vs).set v none)[j]? = _
    by_cases hj : v = j
    · subst hj
      rw [List.getElem?_set_self', if_pos (List.mem_cons_self), wipe_get σ vs v]
      by_cases hm : v ∈ vs
      · rw [if_pos hm]; by_cases hl : v < σ.length <;> simp [hl]
      · rw [if_neg hm]
        by_cases hl : v < σ.length
        · simp [hl]
        · simp [hl]
    · rw [List.getElem?_set_ne hj, wipe_get σ vs j]
      have : (j ∈ v :: vs) ↔ j ∈ vs := by simp [Ne.symm hj]
      simp only [this]
theorem wipe_agr {σ σ' : L2.St} {L vs : List Nat} (a : Agr L σ σ') (h : ∀ i ∈ L, i ∈ vs) : wipe σ' vs = wipe σ vs := by
  apply List.ext_getElem?
  intro j
  rw [wipe_get, wipe_get, a.1]
  by_cases hj : j ∈ vs
  · rw [if_pos hj, if_pos hj]
  · rw [if_neg hj, if_neg hj]
    exact a.2 j fun m => hj (h j m)
theorem wipe_idem (σ : L2.St) (vs : List Nat) : wipe (wipe σ vs) vs = wipe σ vs := by
  apply List.ext_getElem?
  intro j
  rw [wipe_get, wipe_get, wipe_length]
  by_cases hj : j ∈ vs
  · rw [if_pos hj, if_pos hj]
  · rw [if_neg hj, if_neg hj]
theorem wipeD_get : ∀ (ρ : Env') (vs : List Nat) (j : Nat) (d : D), (wipeD ρ vs : List (Option D))[j]? = some (some d) → (ρ : List (Option D))[j]? = some (some d) ∧ j ∉ vs
  | ρ, [], j, d, h => ⟨h, by simp⟩
  | ρ, v :: vs, j, d, h => by
    have h' : ((wipeD ρ vs).set v none : List (Option D))[j]? = some (some d) := h
    by_cases hj : v = j
    · subst hj
      rw [List.getElem?_set_self'] at h'
      cases hw : (wipeD ρ vs : List (Option D))[v]? with
      | none => rw [hw] at h'; cases h'
      | some x => rw [hw] at h'; cases h'
    · rw [List.getElem?_set_ne hj] at h'
      obtain ⟨h1, h2⟩ := wipeD_get ρ vs j d h'
      exact ⟨h1, by simp only [List.mem_cons, not_or]; exact ⟨Ne.symm hj, h2⟩⟩
theorem wipeD_len : ∀ (ρ : Env') (vs : List Nat), (wipeD ρ vs).length = ρ.length
  | _, [] => rfl
  | ρ, v :: vs => by show ((wipeD ρ vs).set v none).length = _; rw [List.length_set, wipeD_len]
theorem ERep.wipe {ρ : Env'} {σ : L2.St} {vs : List Nat} (e : ERep F μ H ρ σ) : ERep F μ H (wipeD ρ vs) (wipe σ vs) := by
  refine ⟨by rw [wipeD_len, wipe_length]; exact e.1, fun j d h => ?_⟩
  obtain ⟨h1, h2⟩ := wipeD_get ρ vs j d h
  rw [wipe_get, if_neg h2]
  exact e.2 j d h1
theorem ItOk.mono {μ' : Mu} {H' : Hp} {s : Src} {J : It} (x : Ext μ H μ' H') (h : ItOk F μ H s J) : ItOk F μ' H' s J := fun μ2 S2 H2 e r g => h μ2 S2 H2 (x.trans e) r g
theorem EnvR.of {ρ : Env'} {σ : L2.St} (e : ERep F μ H ρ σ) : EnvR F none μ H ρ σ := ⟨e, fun h z => nomatch z⟩
end
abbrev W0 : WX := fun _ _ _ _ => False
theorem drop_cons {α : Type} {l : List α} {i : Nat} {d : α} {r : List α} (h : l.drop i = d :: r) : l[i]? = some d ∧ l.drop (i + 1) = r ∧ i < l.length := by
  have hi : i < l.length := by
    rcases Nat.lt_or_ge i l.length with z | z
    · exact z
    · rw [List.drop_eq_nil_of_le z] at h; cases h
  rw [List.drop_eq_getElem_cons hi] at h
  injection h with h1 h2
  exact ⟨by rw [List.getElem?_eq_getElem hi, h1], h2, hi⟩
/-- a clause's turns -/
theorem lc_loop {F : Fx} {μ0 : Mu} {H0 : Hp} {S0 S' : List O} {s : Src} {J : It} {ρ : Env'} {σ : L2.St} {vs : List Nat} {t : T} {n : Nat} {D' : Addr} {fC : Env' → List O → R Bool} {fe : Env' → List O → R D} {End : Hp → Prop}
    (it : ItOk F μ0 H0 s J) (e : ERep F μ0 H0 ρ σ) (rel : Rel F μ0 S0 H0) (hD : μ0[n]? = some D') (hsl : ∀ i ∈ tSl t, i ∈ vs)
    (fin : lcGo n s.gd (fun d S => match asT t d (wipeD ρ vs) with
      | some ρ' => (fC ρ' S).bind fun k S => if k = true then (fe ρ' S).map some else .ok none S
      | none => .bad) s.its S0 = .ok () S') (hend : ∀ μ' H', Ext μ0 H0 μ' H' → Rel F μ' S' H' → End H') :
    ∃ Wv : Nat → Nat → Hp → Prop, (∃ m, Wv 0 m H0) ∧ ∀ i m H, Wv i m H → (J.stop i H ∧ End H) ∨ (J.go i H ∧ ∃ Nx : Hp → Prop, (∀ H', Nx H' → ∃ m', m' < m ∧ Wv (i + 1) m' H') ∧
      ∀ x H', J.yld i H x H' → tgG F.K t x (wipe σ vs) H' fun σ2 H2 => wipe σ2 vs = wipe σ vs ∧ tT F W0 none fC σ2 H2 fun b H3 =>
        if b = true then tE F W0 none fe σ2 H3 fun y H4 => ∃ acc, H4 D' = some (.lst acc) ∧ acc.length < sizeLine ∧ Nx (upd H4 D' (.lst (acc ++ [y]))) else Nx H3) := by
  refine ⟨fun i m H => m = s.its.length - i ∧ i ≤ s.its.length ∧ ∃ μi Si, Ext μ0 H0 μi H ∧ Rel F μi Si H ∧ lcGo n s.gd (fun d S => match asT t d (wipeD ρ vs) with
      | some ρ' => (fC ρ' S).bind fun k S => if k = true then (fe ρ' S).map some else .ok none S
      | none => .bad) (s.its.drop i) Si = .ok () S', ⟨_, rfl, Nat.zero_le _, μ0, S0, Ext.refl _ _, rel, fin⟩, ?_⟩
  rintro i m H ⟨rfl, hi, μi, Si, xi, ri, f⟩
  cases hd : s.its.drop i with
  | nil =>
    rw [hd] at f
    unfold lcGo at f
    have hi' : i = s.its.length := by
      have := List.drop_eq_nil_iff.mp hd
      omega
    split at f
    · rename_i hg
      cases f
      exact .inl ⟨hi' ▸ (it μi _ H xi ri hg).1, hend μi H xi ri⟩
    · cases f
  | cons d ds =>
    rw [hd] at f
    unfold lcGo at f
    obtain ⟨hget, hdr, hlt⟩ := drop_cons hd
    split at f
    · rename_i hg
      obtain ⟨hgo, hy⟩ := (it μi _ H xi ri hg).2 i d hget
      refine .inr ⟨hgo, fun H' => ∃ μ' S2, Ext μ0 H0 μ' H' ∧ Rel F μ' S2 H' ∧ lcGo n s.gd (fun d S => match asT t d (wipeD ρ vs) with
        | some ρ' => (fC ρ' S).bind fun k S => if k = true then (fe ρ' S).map some else .ok none S
        | none => .bad) ds S2 = .ok () S', fun H' ⟨μ', S2, x2, r2, f2⟩ => ⟨s.its.length - (i + 1), by omega, rfl, hlt, μ', S2, x2, r2, by rw [hdr]; exact f2⟩, fun x H' hyl => ?_⟩
      obtain ⟨x1, r1, rd⟩ := hy x H' hyl
      have xi1 := xi.trans x1
      cases ha : asT t d (wipeD ρ vs) with
      | none => rw [ha] at f; cases f
      | some ρ' =>
        rw [ha] at f
        dsimp only at f
        refine asT_go t d _ ρ' _ x _ ha ((e.mono xi1).wipe) rd fun σ2 e2 a2 _ => ⟨by rw [wipe_agr a2 hsl, wipe_idem], ρ', μi, Si, EnvR.of e2, r1, ?_⟩
        cases hc : fC ρ' Si with
        | bad => rw [hc] at f; cases f
        | ex y S3 => rw [hc] at f; cases f
        | ok k S3 =>
          rw [hc] at f
          intro μ3 H3 x3 r3
          have f' : (match (if k = true then (fe ρ' S3).map some else R.ok none S3 : R (Option D)) with
            | .ok none S' => lcGo n s.gd (fun d S => match asT t d (wipeD ρ vs) with
                | some ρ' => (fC ρ' S).bind fun k S => if k = true then (fe ρ' S).map some else .ok none S
                | none => .bad) ds S'
            | .ok (some x) S' => (match S'[n]? with
              | some (.lst acc) => if acc.length < sizeLine then lcGo n s.gd (fun d S => match asT t d (wipeD ρ vs) with
                | some ρ' => (fC ρ' S).bind fun k S => if k = true then (fe ρ' S).map some else .ok none S
                | none => .bad) ds (S'.set n (.lst (acc ++ [x]))) else .bad
              | _ => .bad)
            | _ => .bad) = .ok () S' := f
          by_cases hk : k = true
          · dsimp only
            rw [if_pos hk]
            rw [if_pos hk] at f'
            refine ⟨ρ', μ3, S3, (EnvR.of e2).mono x3, r3, ?_⟩
            cases hf : fe ρ' S3 with
            | bad => rw [hf] at f'; cases f'
            | ex y S4 => rw [hf] at f'; cases f'
            | ok y S4 =>
              rw [hf] at f'
              intro μ4 H4 x4 r4 v rv
              have f2 : (match S4[n]? with
                | some (.lst acc) => if acc.length < sizeLine then lcGo n s.gd (fun d S => match asT t d (wipeD ρ vs) with
                  | some ρ' => (fC ρ' S).bind fun k S => if k = true then (fe ρ' S).map some else .ok none S
                  | none => .bad) ds (S4.set n (.lst (acc ++ [y]))) else R.bad
                | _ => R.bad) = .ok () S' := f'
              split at f2
              · rename_i acc hacc
                split at f2
                · rename_i hz
                  have hD4 : μ4[n]? = some D' := ((xi1.trans x3).trans x4).get hD
                  obtain ⟨vs4, q4, rr4⟩ := r4.obj n _ D' hacc hD4
                  refine ⟨vs4, q4, by rw [rr4.length]; exact hz, μ4, _, ((xi1.trans x3).trans x4).trans (Ext.wr (List.mem_of_getElem? hD4)), r4.wr (o := .lst (acc ++ [y])) hD4 ⟨_, upd_same, ?_⟩, f2⟩
                  exact (rr4.snoc rv).mono (Ext.wr (List.mem_of_getElem? hD4))
                · cases f2
              · cases f2
          · dsimp only
            rw [if_neg hk]
            rw [if_neg hk] at f'
            exact ⟨μ3, S3, xi1.trans x3, r3, f'⟩
    · cases f

section
variable {X : Cx} {F : Fx} {W : WX}
/-- the reading of a comprehension -/
theorem lc_reads {vs : List Nat} {t : T} {fI : Env' → List O → R Src} {fC : Env' → List O → R Bool} {fe : Env' → List O → R D} {σ : L2.St} {H : Hp} {Q : VK} (hsl : ∀ i ∈ tSl t, i ∈ vs)
    (h : tE F W none (fun ρ S => (fI ρ S).bind fun s S => (lcGo S.length s.gd (fun d S' => match asT t d (wipeD ρ vs) with
      | some ρ' => (fC ρ' S').bind fun k S' => if k = true then (fe ρ' S').map some else .ok none S'
      | none => .bad) s.its (S ++ [.lst []])).prim.bind fun _ S' => .ok (.ref S.length) S') σ H Q) :
    tLc (tI F W none fI) (tgG F.K t) (tT F W0 none fC) (tE F W0 none fe) vs σ H Q := by
  obtain ⟨ρ, μ, S, e, rel, q⟩ := h
  refine ⟨ρ, μ, S, e, rel, q.bind.imp fun s μ1 S1 H1 x1 r1 q1 J hJ D' hn => ?_⟩
  have rp : Rel F (μ1 ++ [D']) (S1 ++ [.lst []]) (upd H1 D' (.lst [])) := r1.push hn ⟨[], upd_same, rfl⟩
  have xp : Ext μ1 H1 (μ1 ++ [D']) (upd H1 D' (.lst [])) := Ext.push hn
  cases hf : lcGo S1.length s.gd (fun d S' => match asT t d (wipeD ρ vs) with
      | some ρ' => (fC ρ' S').bind fun k S' => if k = true then (fe ρ' S').map some else .ok none S'
      | none => .bad) s.its (S1 ++ [.lst []]) with
  | bad => rw [hf] at q1; exact q1.elim
  | ex y S2 => rw [hf] at q1; exact q1.elim
  | ok u S2 =>
    rw [hf] at q1
    have hD : (μ1 ++ [D'])[S1.length]? = some D' := by rw [← r1.len]; simp
    exact lc_loop (hJ.mono xp) ((e.1.mono x1).mono xp) rp hD hsl hf fun μ' H' x' r' => q1 μ' H' (xp.trans x') r' (.ref D') ⟨D', rfl, x'.get hD⟩
theorem lc2_reads {vs vs1 : List Nat} {t t1 : T} {fI fI1 : Env' → List O → R Src} {fe : Env' → List O → R D} {σ : L2.St} {H : Hp} {Q : VK} (hsl : ∀ i ∈ tSl t, i ∈ vs) (hsl1 : ∀ i ∈ tSl t1, i ∈ vs1)
    (h : tE F W none (fun ρ S => (fI ρ S).bind fun s S => (lc2Go s.gd (fun d S' => match asT t d (wipeD ρ vs) with
      | some ρ' => (fI1 ρ' S').bind fun s1 S' => lcGo S.length s1.gd (fun d1 S' => match asT t1 d1 (wipeD ρ' vs1) with
        | some ρ'' => (R.ok true S').bind fun k S' => if k = true then (fe ρ'' S').map some else .ok none S'
        | none => .bad) s1.its S'
      | none => .bad) s.its (S ++ [.lst []])).prim.bind fun _ S' => .ok (.ref S.length) S') σ H Q) :
    tLc2 (tI F W none fI) (tgG F.K t) tYes (tI F W0 none fI1) (tgG F.K t1) (tT F W0 none fun _ S => .ok true S) (tE F W0 none fe) vs vs1 σ H Q := by
  obtain ⟨ρ, μ, S, e, rel, q⟩ := h
  refine ⟨ρ, μ, S, e, rel, q.bind.imp fun s μ1 S1 H1 x1 r1 q1 J hJ D' hn => ?_⟩
  have rp : Rel F (μ1 ++ [D']) (S1 ++ [.lst []]) (upd H1 D' (.lst [])) := r1.push hn ⟨[], upd_same, rfl⟩
  have xp : Ext μ1 H1 (μ1 ++ [D']) (upd H1 D' (.lst [])) := Ext.push hn
  generalize hF : (fun (d : D) (S' : List O) => match asT t d (wipeD ρ vs) with
      | some ρ' => (fI1 ρ' S').bind fun s1 S' => lcGo S1.length s1.gd (fun d1 S' => match asT t1 d1 (wipeD ρ' vs1) with
        | some ρ'' => (R.ok true S').bind fun k S' => if k = true then (fe ρ'' S').map some else .ok none S'
        | none => .bad) s1.its S'
      | none => .bad) = FF at q1
  cases hf : lc2Go s.gd FF s.its (S1 ++ [.lst []]) with
  | bad => rw [hf] at q1; exact q1.elim
  | ex y S2 => rw [hf] at q1; exact q1.elim
  | ok u S2 =>
    rw [hf] at q1
    have hD : (μ1 ++ [D'])[S1.length]? = some D' := by rw [← r1.len]; simp
    have it0 := hJ.mono xp
    have e0 := (e.1.mono x1).mono xp
    refine ⟨fun i m H => m = s.its.length - i ∧ i ≤ s.its.length ∧ ∃ μi Si, Ext (μ1 ++ [D']) (upd H1 D' (.lst [])) μi H ∧ Rel F μi Si H ∧ lc2Go s.gd FF (s.its.drop i) Si = .ok u S2, ⟨_, rfl, Nat.zero_le _, _, _, Ext.refl _ _, rp, hf⟩, ?_⟩
    rintro i m H ⟨rfl, hi, μi, Si, xi, ri, f⟩
    cases hd : s.its.drop i with
    | nil =>
      rw [hd] at f
      unfold lc2Go at f
      have hi' : i = s.its.length := by
        have := List.drop_eq_nil_iff.mp hd
        omega
      split at f
      · rename_i hg
        cases f
        exact .inl ⟨hi' ▸ (it0 μi _ H xi ri hg).1, q1 μi H (xp.trans xi) ri (.ref D') ⟨D', rfl, xi.get hD⟩⟩
      · cases f
    | cons d ds =>
      rw [hd] at f
      unfold lc2Go at f
      obtain ⟨hget, hdr, hlt⟩ := drop_cons hd
      split at f
      · rename_i hg
        obtain ⟨hgo, hy⟩ := (it0 μi _ H xi ri hg).2 i d hget
        refine .inr ⟨hgo, fun H' => ∃ μ' S3, Ext (μ1 ++ [D']) (upd H1 D' (.lst [])) μ' H' ∧ Rel F μ' S3 H' ∧ lc2Go s.gd FF ds S3 = .ok u S2, fun H' ⟨μ', S3, x2, r2, f2⟩ => ⟨s.its.length - (i + 1), by omega, rfl, hlt, μ', S3, x2, r2, by rw [hdr]; exact f2⟩, fun x H' hyl => ?_⟩
        obtain ⟨x2, r2, rd⟩ := hy x H' hyl
        have xi1 := xi.trans x2
        have f0 : FF d Si = (match asT t d (wipeD ρ vs) with
          | some ρ' => (fI1 ρ' Si).bind fun s1 S' => lcGo S1.length s1.gd (fun d1 S' => match asT t1 d1 (wipeD ρ' vs1) with
            | some ρ'' => (R.ok true S').bind fun k S' => if k = true then (fe ρ'' S').map some else .ok none S'
            | none => .bad) s1.its S'
          | none => .bad) := by rw [← hF]
        cases ha : asT t d (wipeD ρ vs) with
        | none => rw [f0, ha] at f; cases f
        | some ρ' =>
          rw [ha] at f0
          dsimp only at f0
          refine asT_go t d _ ρ' _ x _ ha ((e0.mono xi1).wipe) rd fun σ2 e2 a2 _ => ⟨by rw [wipe_agr a2 hsl, wipe_idem], ?_⟩
          unfold tYes
          dsimp only
          rw [if_pos rfl]
          refine ⟨ρ', μi, Si, EnvR.of e2, r2, ?_⟩
          cases hc : fI1 ρ' Si with
          | bad => rw [f0, hc] at f; cases f
          | ex y S3 => rw [f0, hc] at f; cases f
          | ok s1 S3 =>
            rw [hc] at f0
            intro μ3 H3 x3 r3 J1 hJ1
            have f1 : FF d Si = lcGo S1.length s1.gd (fun d1 S' => match asT t1 d1 (wipeD ρ' vs1) with
              | some ρ'' => (R.ok true S').bind fun k S' => if k = true then (fe ρ'' S').map some else .ok none S'
              | none => .bad) s1.its S3 := f0
            cases hl : lcGo S1.length s1.gd (fun d1 S' => match asT t1 d1 (wipeD ρ' vs1) with
              | some ρ'' => (R.ok true S').bind fun k S' => if k = true then (fe ρ'' S').map some else .ok none S'
              | none => .bad) s1.its S3 with
            | bad => rw [f1, hl] at f; cases f
            | ex y S4 => rw [f1, hl] at f; cases f
            | ok w S4 =>
              rw [f1, hl] at f
              exact lc_loop (fC := fun _ S => .ok true S) hJ1 (e2.mono x3) r3 ((xi1.trans x3).get hD) hsl1 hl fun μ' H' x' r' => ⟨μ', S4, (xi1.trans x3).trans x', r', f⟩
      · cases f
end
end Ev
end
section
set_option Elab.async false
set_option linter.all false
set_option maxRecDepth 100000
set_option maxHeartbeats 4000000
set_option autoImplicit false
/-! Ev, part K: statements. -/
namespace Ev
open PySem PySem.Spec PyProof.Rows L2

def SatF (F : Fx) (hi : Option Hi) (W : WX) (D : Ends) (μ : Mu) (H : Hp) (f : Fl) : Prop := match f with
  | .nx ρ S => ∀ μ' H' σ', Ext μ H μ' H' → Rel F μ' S H' → EnvR F hi μ' H' ρ σ' → D.nx σ' H'
  | .rt d S => ∀ μ' H' v, Ext μ H μ' H' → Rel F μ' S H' → Rep F μ' H' d v → D.rt v H'
  | .ex x ρ S => ∀ μ' H' σ' cls dd, Ext μ H μ' H' → Rel F μ' S H' → EnvR F hi μ' H' ρ σ' → XRep F μ' H' x cls dd → W cls dd σ' H'
  | .bad => False
def tS (F : Fx) (W : WX) (hi : Option Hi) (f : Env' → List O → Fl) : TS := fun D σ H => ∃ ρ μ S, EnvR F hi μ H ρ σ ∧ Rel F μ S H ∧ SatF F hi W D μ H (f ρ S)
section
variable {F : Fx} {hi : Option Hi} {W : WX} {En : Ends} {μ μ' : Mu} {H H' : Hp} {ρ : Env'} {σ : L2.St} {S : List O}
theorem SatF.mono {f : Fl} (x : Ext μ H μ' H') (h : SatF F hi W En μ H f) : SatF F hi W En μ' H' f := by
  cases f with
  | nx ρ S => exact fun μ2 H2 σ2 e r z => h μ2 H2 σ2 (x.trans e) r z
  | rt d S => exact fun μ2 H2 v e r z => h μ2 H2 v (x.trans e) r z
  | ex y ρ S => exact fun μ2 H2 σ2 cls dd e r z q => h μ2 H2 σ2 cls dd (x.trans e) r z q
  | bad => exact h
theorem SatF.fl {α : Type} {r : R α} {k : α → List O → Fl} (e : EnvR F hi μ H ρ σ) (h : SatF F hi W En μ H (r.fl ρ k)) : Sat F μ H r σ W fun a μ' S' H' => SatF F hi W En μ' H' (k a S') := by
  cases r with
  | ok a S => exact fun μ2 H2 x r => SatF.mono x h
  | ex y S => exact fun μ2 H2 cls d x r z => h μ2 H2 σ cls d x r (e.mono x) z
  | bad => exact h
theorem SatF.bind {f : Fl} {k : Env' → List O → Fl} (h : SatF F hi W En μ H (f.bind k)) :
    SatF F hi W { En with nx := fun σ' H' => tS F W hi k En σ' H' } μ H f := by
  cases f with
  | nx ρ S => exact fun μ2 H2 σ2 x r e => ⟨ρ, μ2, S, e, r, SatF.mono x h⟩
  | rt d S => exact h
  | ex y ρ S => exact h
  | bad => exact h
theorem SatF.nx (h : SatF F hi W En μ H (.nx ρ S)) (rel : Rel F μ S H) (e : EnvR F hi μ H ρ σ) : En.nx σ H := h μ H σ (Ext.refl _ _) rel e
/-- a name's slot is stored -/
theorem EnvR.asT {t : T} {d : D} {ρ' : Env'} {v : V} {Q : L2.St → Hp → Prop} (e : EnvR F hi μ H ρ σ) (r : Rep F μ H d v) (h : Ev.asT t d ρ = some ρ') (hs : ∀ q, hi = some q → ∀ i, q.i = some i → i ∉ tSl t)
    (k : ∀ σ', EnvR F hi μ H ρ' σ' → Q σ' H) : tgG F.K t v σ H Q :=
  asT_go t d ρ ρ' σ v Q h e.1 r fun σ' e' a1 a2 => k σ' ⟨e', fun q hq => ⟨(e.2 q hq).1, fun i hqi => by
    have ni := hs q hq i hqi
    rw [a1.2 i ni, a2.2 i ni]
    exact (e.2 q hq).2 i hqi⟩⟩
end

section
variable {X : Cx} {F : Fx} {W : WX} {hi : Option Hi}
theorem PS.imp {st : Stmt} {t t' : TS} (h : PS X st t) (i : ∀ D σ H, t' D σ H → t D σ H) : PS X st t' := ⟨fun pins s σ H D I q => h.run pins s σ H D I (i _ _ _ q)⟩
theorem PSs.imp {st : List Stmt} {t t' : TS} (h : PSs X st t) (i : ∀ D σ H, t' D σ H → t D σ H) : PSs X st t' := ⟨fun pins s σ H D I q => h.run pins s σ H D I (i _ _ _ q)⟩
theorem sS_next {st : Stmt} (h : PS X st tNext) : PS X st (tS F W hi fun ρ S => .nx ρ S) := PS.imp h fun D σ H ⟨ρ, μ, S, e, rel, q⟩ => SatF.nx q rel e
theorem sS_nil : PSs X [] (tS F W hi fun ρ S => .nx ρ S) := PSs.imp pss_nil fun D σ H ⟨ρ, μ, S, e, rel, q⟩ => SatF.nx q rel e
theorem sS_cons {st : Stmt} {r : List Stmt} {f g : Env' → List O → Fl} (h : PS X st (tS F W hi f)) (hr : PSs X r (tS F W hi g)) : PSs X (st :: r) (tS F W hi fun ρ S => (f ρ S).bind fun ρ' S' => g ρ' S') :=
  PSs.imp (pss_cons h hr) fun D σ H ⟨ρ, μ, S, e, rel, q⟩ => ⟨ρ, μ, S, e, rel, SatF.bind q⟩
theorem sS_ret {e : Expr} {f : Env' → List O → R D} {pos : Pos} (he : PE X e (tE F W hi f)) : PS X (.Return (some e) pos) (tS F W hi fun ρ S => (f ρ S).fl ρ fun d S => .rt d S) :=
  PS.imp (ps_ret he) fun D σ H ⟨ρ, μ, S, e, rel, q⟩ => ⟨ρ, μ, S, e, rel, (SatF.fl e q).imp fun d μ1 S1 H1 x1 r1 q1 v rv => q1 μ1 H1 v (Ext.refl _ _) r1 rv⟩
theorem sS_retN {pos : Pos} : PS X (.Return none pos) (tS F W hi fun _ S => .rt .non S) :=
  PS.imp ps_retN fun D σ H ⟨ρ, μ, S, e, rel, q⟩ => q μ H .non (Ext.refl _ _) rel rfl
def isLC : Expr → Bool
  | .ListComp .. => true
  | .SetComp .. => true
  | .DictComp .. => true
  | _ => false
theorem sw_plain {e : Expr} {tg : Option Expr} {l : Nat} {env : Env} (h : isLC e = false) : swapsWith e tg l env = pure false := by
  cases e <;> first | exact (Bool.false_ne_true h.symm).elim | rfl
theorem sS_exp {e : Expr} {f : Env' → List O → R D} {pos : Pos} (he : PE X e (tE F W hi f)) (hl : isLC e = false) : PS X (.Expr e pos) (tS F W hi fun ρ S => (f ρ S).fl ρ fun _ S => .nx ρ S) :=
  PS.imp (ps_expr he (sw_plain hl)) fun D σ H ⟨ρ, μ, S, e, rel, q⟩ => ⟨ρ, μ, S, e, rel, (SatF.fl e q).imp fun d μ1 S1 H1 x1 r1 q1 v rv => SatF.nx q1 r1 (e.mono x1)⟩
def isTp : Expr → Bool
  | .Tuple .. => true
  | _ => false
def isLs : Expr → Bool
  | .List .. => true
  | _ => false
theorem sws_none {tg e : Expr} {env : Env} (h : (isTp tg && isTp e) = false) (h2 : isLs tg = false) : swappedStores [tg] e env = pure none := by
  cases tg with
  | Tuple es k p =>
    cases e with
    | Tuple vs k2 p2 => exact (Bool.false_ne_true h.symm).elim
    | _ => rfl
  | List es p => exact (Bool.false_ne_true h2.symm).elim
  | _ => rfl
theorem ae_one {tg : Expr} {env : Env} (h : plainA tg = true) : (assignEach [tg] env).map (·.2) = [assign tg env] := by
  cases tg <;> first | exact (Bool.false_ne_true h).elim | rfl
theorem ae_cons {tg : Expr} {r : List Expr} {env : Env} (h : plainA tg = true) : assignEach (tg :: r) env = (false, assign tg env) :: assignEach r env := by
  cases tg <;> first | exact (Bool.false_ne_true h).elim | rfl
theorem ae_len {env : Env} : ∀ {es : List Expr}, es.all plainA = true → (assignEach es env).length = es.length
  | [], _ => rfl
  | e :: es, h => by
    have h' := Bool.and_eq_true_iff.mp (show (plainA e && es.all plainA) = true from h)
    rw [ae_cons h'.1]
    show (assignEach es env).length + 1 = es.length + 1
    rw [ae_len h'.2]
theorem ae_find {env : Env} : ∀ {es : List Expr}, es.all plainA = true → (assignEach es env).findIdx? (·.1) = none
  | [], _ => rfl
  | e :: es, h => by
    have h' := Bool.and_eq_true_iff.mp (show (plainA e && es.all plainA) = true from h)
    rw [ae_cons h'.1, List.findIdx?_cons, ae_find h'.2]
    rfl
theorem sS_asg {tg e : Expr} {t : T} {f : Env' → List O → R D} {pos : Pos} (hk : F.K = X.K) (he : PE X e (tE F W hi f)) (hg : PG X tg (tgG X.K t)) (hsw : swapsWithSole [tg] e pos.line X.env = pure false) (hw : (isTp tg && isTp e) = false) (hls : isLs tg = false) (hp : plainA tg = true)
    (hs : ∀ q, hi = some q → ∀ i, q.i = some i → i ∉ tSl t) :
    PS X (.Assign [tg] e pos) (tS F W hi fun ρ S => (f ρ S).fl ρ fun d S => (match asT t d ρ with
      | some ρ' => .nx ρ' S
      | none => .bad)) :=
  PS.imp (ps_asg he hg hsw (sws_none hw hls) (ae_one hp)) fun D σ H ⟨ρ, μ, S, e, rel, q⟩ => ⟨ρ, μ, S, e, rel, (SatF.fl e q).imp fun d μ1 S1 H1 x1 r1 q1 v rv => by
    cases ha : asT t d ρ with
    | none => rw [ha] at q1; exact q1.elim
    | some ρ' =>
      rw [ha] at q1
      rw [← hk]
      exact EnvR.asT (e.mono x1) rv ha hs fun σ' e' => SatF.nx q1 r1 e'⟩
theorem gcBSat {F : Fx} {μ : Mu} {H : Hp} {S : List O} {σ : L2.St} {z : Bool} {r : R D} {Q : VK} (rel : Rel F μ S H) (h : Sat F μ H (gcB z S r) σ W (PD F Q)) : Sat F μ H r σ W (PD F Q) := by
  unfold gcB at h
  split at h
  · exact gcSat rel h
  · exact h
/-- name = a comprehension, stored as it ends -/
theorem sS_asgLc {st : Stmt} {i : Nat} {z : Bool} {f : Env' → List O → R D} {te : TE} (rule : PS X st (tAsg te (gName i))) (hr : ∀ σ H Q, tE F W hi f σ H Q → te σ H Q) (hs : ∀ q, hi = some q → ∀ j, q.i = some j → j ≠ i) :
    PS X st (tS F W hi fun ρ S => (gcB z S (f ρ S)).fl ρ fun d S => .nx (ρ.set i (some d)) S) :=
  PS.imp rule fun D σ H ⟨ρ, μ, S, e, rel, q⟩ => hr _ _ _ ⟨ρ, μ, S, e, rel, gcBSat rel ((SatF.fl e q).imp fun d μ1 S1 H1 x1 r1 q1 v rv => by
    have g : tgG F.K (.nm i) v σ H1 D.nx := EnvR.asT (t := .nm i) (e.mono x1) rv rfl (fun q hq j hj m => hs q hq j hj (by simpa [tSl] using m)) fun σ' e' => SatF.nx q1 r1 e'
    exact g)⟩
theorem sS_par {i j : Nat} {x y : Str} {a b : Expr} {f g : Env' → List O → R D} {px py pt : Pos} {kt k2 pt2} {pos : Pos} (hc : X.calm = true) (hN : X.N.Nodup) (hi' : X.N[i]? = some x) (hj : X.N[j]? = some y) (hij : i ≠ j)
    (hx : X.env.scope.names.lookup x = some .local) (hy : X.env.scope.names.lookup y = some .local) (ha : PE X a (tE F W none f)) (hb : PE X b (tE F W none g)) (hpa : plainA a = true) (hpb : plainA b = true)
    (hw : swappedStores [.Tuple [.Name x px, .Name y py] kt pt] (.Tuple [a, b] k2 pt2) X.env = pure (some [x, y])) :
    PS X (.Assign [.Tuple [.Name x px, .Name y py] kt pt] (.Tuple [a, b] k2 pt2) pos) (tS F W none fun ρ S => (f ρ S).fl ρ fun x S => (g ρ S).fl ρ fun y S => .nx ((ρ.set i (some x)).set j (some y)) S) :=
  PS.imp (ps_par hc hN hi' hj hij hx hy (pa_cons ha (pa_cons hb pa_nil (star_is hpb)) (star_is hpa)) hw (by rfl)) fun D σ H ⟨ρ, μ, S, e, rel, q⟩ =>
    ⟨ρ, μ, S, e, rel, (SatF.fl e q).imp fun d μ1 S1 H1 x1 r1 q1 v rv => ⟨ρ, μ1, S1, e.mono x1, r1, (SatF.fl (e.mono x1) q1).imp fun d2 μ2 S2 H2 x2 r2 q2 v2 rv2 =>
      ⟨v, v2, rfl, SatF.nx q2 r2 (EnvR.of ((((e.mono x1).mono x2).1.set (rv.mono x2)).set rv2))⟩⟩⟩
theorem asgI_is {o i : Expr} {pos : Pos} {env : Env} (h : plainI i = true) (v : Value) : assign (.Subscript o i pos) env v = (do
      let ov ← holding [v] (eval o env)
      let iv ← holding [v, ov] (eval i env)
      standAt pos
      holding [v, ov, iv] (setItem ov iv v)
      release [v, ov, iv] []) := by
  cases i <;> first | exact (Bool.false_ne_true h).elim | rfl
theorem sS_asgI {o i e : Expr} {f g h : Env' → List O → R D} {p pos : Pos} (hu : X.A.units + 64 < cLine) (he : PE X e (tE F W hi f)) (ho : PE X o (tE F W hi g)) (hii : PE X i (tE F W hi h)) (hp : plainI i = true) (hsw : swapsWithSole [.Subscript o i p] e pos.line X.env = pure false) :
    PS X (.Assign [.Subscript o i p] e pos) (tS F W hi fun ρ S => (f ρ S).fl ρ fun d S => (g ρ S).fl ρ fun x S => (h ρ S).fl ρ fun y S => (setD x y d S).prim.fl ρ fun _ S => .nx ρ S) :=
  PS.imp (ps_asg he (pg_sub ho hii (set_S (F := F) hu) (asgI_is hp)) hsw (sws_none (by rfl) (by rfl)) (by rfl)) fun D σ H ⟨ρ, μ, S, e, rel, q⟩ =>
    ⟨ρ, μ, S, e, rel, (SatF.fl e q).imp fun d μ1 S1 H1 x1 r1 q1 v rv => ⟨ρ, μ1, S1, e.mono x1, r1, (SatF.fl (e.mono x1) q1).imp fun d2 μ2 S2 H2 x2 r2 q2 v2 rv2 =>
      ⟨ρ, μ2, S2, (e.mono x1).mono x2, r2, (SatF.fl ((e.mono x1).mono x2) q2).imp fun d3 μ3 S3 H3 x3 r3 q3 v3 rv3 =>
        ⟨μ3, S3, d2, d3, d, r3, rv2.mono x3, rv3, (rv.mono x2).mono x3, by
          cases hs : setD d2 d3 d S3 with
          | ok u S4 =>
            rw [hs] at q3
            exact fun μ4 H4 x4 r4 => q3 μ4 H4 σ x4 r4 ((((e.mono x1).mono x2).mono x3).mono x4)
          | ex y S4 => rw [hs] at q3; exact q3.elim
          | bad => rw [hs] at q3; exact q3.elim⟩⟩⟩⟩
theorem putD_rep {μ : Mu} {H : Hp} {f : Nat} {d : D} {v : V} (hf : f < F.an.length) (rd : Rep F μ H d v) : ∀ {fs : List Nat} {ds : List D} {vs : List V}, RepL F μ H ds vs → fs.length = ds.length → (∀ g ∈ fs, g < F.an.length) →
    ∃ vs', putF (F.nm f) v ((fs.map F.nm).zip vs) = (((putD fs ds f d).1.map F.nm).zip vs') ∧ RepL F μ H (putD fs ds f d).2 vs' ∧ (putD fs ds f d).1.length = (putD fs ds f d).2.length ∧ (∀ g ∈ (putD fs ds f d).1, g < F.an.length)
  | [], [], vs, r, _, _ => by
    cases (show _ = _ from r)
    exact ⟨[v], rfl, ⟨v, [], rfl, rd, rfl⟩, rfl, fun g hg => by simp [putD] at hg; omega⟩
  | g :: fs, e :: ds, vs, r, hl, hb => by
    obtain ⟨w, wr, rfl, r1, r2⟩ := r
    unfold putD
    by_cases hg : g = f
    · subst hg
      rw [if_pos rfl]
      refine ⟨v :: wr, ?_, ⟨v, wr, rfl, rd, r2⟩, hl, hb⟩
      show (if F.nm g = F.nm g then _ else _) = _
      rw [if_pos rfl]; rfl
    · rw [if_neg hg]
      obtain ⟨vs', e1, e2, e3, e4⟩ := putD_rep hf rd r2 (by simpa using hl) (fun g hg => hb g (List.mem_cons_of_mem _ hg))
      refine ⟨w :: vs', ?_, ⟨w, vs', rfl, r1, e2⟩, by simp [e3], fun k hk => ?_⟩
      · show (if F.nm g = F.nm f then _ else _) = _
        rw [if_neg (fun z => hg (Fx.inj (hb g List.mem_cons_self) hf z))]
        exact congrArg (List.cons (F.nm g, w)) e1
      · rcases List.mem_cons.mp hk with rfl | hk
        · exact hb _ List.mem_cons_self
        · exact e4 k hk
  | [], _ :: _, _, _, hl, _ => by cases hl
  | _ :: _, [], _, _, hl, _ => by cases hl
theorem sS_asgF {t : Ct} {o e : Expr} {f : Nat} {fn : Str} {g h : Env' → List O → R D} {p pos : Pos} (he : PE X e (tE F W hi g)) (ho : PE X o (tE F W hi h)) (hf : F.nm f = fn) (hl : isLC e = false)
    (hc : ∀ C, t.fld C f = true → Cls X.K (F.ca C) ∧ NoAttr X.K (F.ca C) (F.nm f) ∧ f < F.an.length) :
    PS X (.Assign [.Attribute o fn p] e pos) (tS F W hi fun ρ S => (g ρ S).fl ρ fun d S => (h ρ S).fl ρ fun x S => (setF t x f d S).fl ρ fun _ S => .nx ρ S) :=
  PS.imp (ps_fld ho he (sw_plain hl)) fun D σ H ⟨ρ, μ, S, e, rel, q⟩ =>
    ⟨ρ, μ, S, e, rel, (SatF.fl e q).imp fun d μ1 S1 H1 x1 r1 q1 v rv => ⟨ρ, μ1, S1, e.mono x1, r1, (SatF.fl (e.mono x1) q1).imp fun d2 μ2 S2 H2 x2 r2 q2 v2 rv2 => by
      subst hf
      have e2 := (e.mono x1).mono x2
      unfold setF at q2
      split at q2
      · rename_i n
        obtain ⟨a, rfl, hm⟩ := rv2
        split at q2
        · rename_i C fs ds hn
          split at q2
          · rename_i hfl
            obtain ⟨c1, c2, c3⟩ := hc C hfl.1
            obtain ⟨dx, vs, hq, l, b, rr⟩ := r2.obj n _ a hn hm
            have xw : Ext μ2 H2 μ2 (upd H2 a (.ins (F.ca C) dx (putF (F.nm f) v ((fs.map F.nm).zip vs)))) := Ext.wr (List.mem_of_getElem? hm)
            obtain ⟨vs', k1, k2, k3, k4⟩ := putD_rep c3 (rv.mono x2) rr l b
            refine ⟨a, _, dx, _, rfl, hq, c1, c2, ?_, ?_⟩
            · rw [List.length_zip, List.length_map, rr.length, ← l, Nat.min_self]; exact hfl.2
            · refine q2 μ2 _ σ xw (r2.wr hm ⟨dx, vs', by rw [k1]; exact upd_same, k3, k4, ?_⟩) (e2.mono xw)
              exact k2.mono xw
          · exact q2.elim
        · exact q2.elim
      · exact q2.elim⟩⟩
theorem sS_aug {i : Nat} {x : Str} {e : Expr} {op : Operator} {f : Env' → List O → R D} {p pos : Pos} (hN : X.N.Nodup) (hi' : X.N[i]? = some x) (hx : Loc X.env.scope x) (he : PE X e (tE F W hi f)) (hf : X.fn x = true ∨ X.env.scope.names.lookup x = some .local) (hop : op = .Add ∨ op = .Sub) (hs : ∀ q, hi = some q → ∀ j, q.i = some j → j ≠ i) :
    PS X (.AugAssign (.Name x p) op e pos) (tS F W hi fun ρ S => match ρ[i]? with
      | some (some (.int a)) => (f ρ S).fl ρ fun d S => (match augD op a d with
        | some c => .nx (ρ.set i (some (.int c))) S
        | none => .bad)
      | _ => .bad) := by
  have key : ∀ {g : Int → Int → Int}, PIp X op (ipI g) → (∀ a d c, augD op a d = some c → ∃ b, d = .int b ∧ c = g a b) → PS X (.AugAssign (.Name x p) op e pos) (tS F W hi fun ρ S => match ρ[i]? with
      | some (some (.int a)) => (f ρ S).fl ρ fun d S => (match augD op a d with
        | some c => .nx (ρ.set i (some (.int c))) S
        | none => .bad)
      | _ => .bad) := by
    intro g hg hgo
    refine PS.imp (ps_aug hN hi' hx he hg hf) ?_
    intro En σ H ⟨ρ, μ, S, e, rel, q⟩
    have q' : SatF F hi W En μ H (match ρ[i]? with
      | some (some (.int a)) => (f ρ S).fl ρ fun d S => (match augD op a d with
        | some c => .nx (ρ.set i (some (.int c))) S
        | none => .bad)
      | _ => .bad) := q
    split at q'
    · rename_i a ha
      obtain ⟨v, hv, rv⟩ := e.1.2 i _ ha
      cases rep_int rv
      refine ⟨_, hv, ρ, μ, S, e, rel, (SatF.fl e q').imp fun d μ1 S1 H1 x1 r1 q1 v rv => ?_⟩
      cases hc : augD op a d with
      | none => rw [hc] at q1; exact q1.elim
      | some c =>
        rw [hc] at q1
        obtain ⟨b, rfl, rfl⟩ := hgo a d c hc
        cases rep_int rv
        refine ⟨a, b, rfl, rfl, ?_⟩
        have gg : tgG F.K (.nm i) (.int (g a b)) σ H1 En.nx := EnvR.asT (t := .nm i) (d := .int (g a b)) (e.mono x1) rfl rfl (fun q hq j hj m => hs q hq j hj (by simpa [tSl] using m)) fun σ' e' => SatF.nx q1 r1 e'
        exact gg
    · exact q'.elim
  rcases hop with rfl | rfl
  · exact key ip_add fun a d c h => by
      cases d <;> first | (cases h; done) | (cases h; exact ⟨_, rfl, rfl⟩)
  · exact key ip_sub fun a d c h => by
      cases d <;> first | (cases h; done) | (cases h; exact ⟨_, rfl, rfl⟩)
theorem sS_ife {c : Expr} {a b : List Stmt} {h : Env' → List O → R Bool} {f g : Env' → List O → Fl} {pos : Pos} (hc : PT X c (tT F W hi h)) (ha : PSs X a (tS F W hi f)) (hb : PSs X b (tS F W hi g)) :
    PS X (.If c a b pos) (tS F W hi fun ρ S => (h ρ S).fl ρ fun k S => if k = true then f ρ S else g ρ S) :=
  PS.imp (ps_if hc ha hb) fun D σ H ⟨ρ, μ, S, e, rel, q⟩ => ⟨ρ, μ, S, e, rel, (SatF.fl e q).imp fun k μ1 S1 H1 x1 r1 q1 => by
    by_cases hk : k = true
    · rw [if_pos hk] at q1 ⊢; exact ⟨ρ, μ1, S1, e.mono x1, r1, q1⟩
    · rw [if_neg hk] at q1 ⊢; exact ⟨ρ, μ1, S1, e.mono x1, r1, q1⟩⟩
theorem whC_some {c : Env' → List O → R Bool} {b : Env' → List O → Fl} {ρ : Env'} {S : List O} (h : whC c b ρ S ≠ .bad) : ∃ n, whF c b n ρ S = some (whC c b ρ S) := by
  unfold whC at h ⊢
  split at h
  · rename_i hx
    rw [dif_pos hx]
    exact ⟨_, Classical.choose_spec (Classical.choose_spec hx)⟩
  · exact (h rfl).elim
theorem sS_wh {c : Expr} {b : List Stmt} {h : Env' → List O → R Bool} {f : Env' → List O → Fl} {pos : Pos} (hp : PassesOwn (model X.prog X.w) X.A X.env X.xe) (hc : PT X c (tT F W hi h)) (hb : PSs X b (tS F W hi f)) :
    PS X (.While c b [] pos) (tS F W hi fun ρ S => whC h f ρ S) := by
  refine PS.imp (ps_while hp hc hb) ?_
  intro D σ H ⟨ρ, μ, S, e, rel, q⟩
  have hne : whC h f ρ S ≠ .bad := fun z => by
    have q' : SatF F hi W D μ H (whC h f ρ S) := q
    rw [z] at q'; exact q'
  obtain ⟨n, hn⟩ := whC_some hne
  have q' : SatF F hi W D μ H (whC h f ρ S) := q
  generalize whC h f ρ S = fl at hn q'
  refine ⟨fun m σ H => ∃ ρ μ S, EnvR F hi μ H ρ σ ∧ Rel F μ S H ∧ whF h f m ρ S = some fl ∧ SatF F hi W D μ H fl, ⟨n, ρ, μ, S, e, rel, hn, q'⟩, ?_⟩
  rintro m σ1 H1 ⟨ρ1, μ1, S1, e1, r1, w1, s1⟩
  cases m with
  | zero => cases w1
  | succ m =>
    unfold whF at w1
    refine ⟨ρ1, μ1, S1, e1, r1, ?_⟩
    cases hh : h ρ1 S1 with
    | bad => rw [hh] at w1; cases w1; exact s1.elim
    | ex y S2 =>
      rw [hh] at w1
      cases w1
      exact fun μ' H' cls d x r z => s1 μ' H' σ1 cls d x r (e1.mono x) z
    | ok k S2 =>
      rw [hh] at w1
      intro μ2 H2 x2 r2
      dsimp only
      cases k with
      | false =>
        rw [if_neg (by decide)]
        cases w1
        exact s1 μ2 H2 σ1 x2 r2 (e1.mono x2)
      | true =>
        rw [if_pos rfl]
        refine ⟨fun σ' H' => ∃ ρ μ S, EnvR F hi μ H' ρ σ' ∧ Rel F μ S H' ∧ whF h f m ρ S = some fl ∧ SatF F hi W D μ H' fl, fun σ' H' z => ⟨m, Nat.lt_succ_self m, z⟩, ρ1, μ2, S2, e1.mono x2, r2, ?_⟩
        cases hf : f ρ1 S2 with
        | bad =>
          have w2 : (match f ρ1 S2 with
            | .nx ρ' S'' => whF h f m ρ' S''
            | g => some g) = some fl := w1
          rw [hf] at w2; cases w2; exact s1.elim
        | ex y ρ3 S3 =>
          have w2 : (match f ρ1 S2 with
            | .nx ρ' S'' => whF h f m ρ' S''
            | g => some g) = some fl := w1
          rw [hf] at w2; cases w2
          exact s1.mono x2
        | rt d S3 =>
          have w2 : (match f ρ1 S2 with
            | .nx ρ' S'' => whF h f m ρ' S''
            | g => some g) = some fl := w1
          rw [hf] at w2; cases w2
          exact s1.mono x2
        | nx ρ3 S3 =>
          have w2 : (match f ρ1 S2 with
            | .nx ρ' S'' => whF h f m ρ' S''
            | g => some g) = some fl := w1
          rw [hf] at w2
          exact fun μ3 H3 σ3 x3 r3 e3 => ⟨ρ3, μ3, S3, e3, r3, w2, s1.mono (x2.trans x3)⟩
theorem sS_fr {tg iter : Expr} {b : List Stmt} {t : T} {g : Env' → List O → R Src} {f : Env' → List O → Fl} {pos : Pos} (hk : F.K = X.K) (hp : PassesOwn (model X.prog X.w) X.A X.env X.xe) (hc : X.calm = true) (hI : PI X tg iter (tI F W none g)) (hg : PG X tg (tgG X.K t)) (hb : PSs X b (tS F W none f))
    (hs : ∀ x, foldedSetIterable iter X.env x = pure x) :
    PS X (.For tg iter b [] pos) (tS F W none fun ρ S => (g ρ S).fl ρ fun s S => frGo s.gd t f s.its ρ S) := by
  refine PS.imp (ps_for hp hc hI hg hb hs) ?_
  intro D σ H ⟨ρ, μ, S, e, rel, q⟩
  refine ⟨ρ, μ, S, e, rel, (SatF.fl e q).imp fun s μ1 S1 H1 x1 r1 q1 J hJ => ?_⟩
  generalize hfl : frGo s.gd t f s.its ρ S1 = fl at q1
  refine ⟨fun i m σ H => m = s.its.length - i ∧ i ≤ s.its.length ∧ ∃ ρi μi Si, Ext μ1 H1 μi H ∧ EnvR F none μi H ρi σ ∧ Rel F μi Si H ∧ frGo s.gd t f (s.its.drop i) ρi Si = fl, ⟨_, rfl, Nat.zero_le _, ρ, μ1, S1, Ext.refl _ _, e.mono x1, r1, hfl⟩, ?_⟩
  rintro i m σ2 H2 ⟨rfl, hi', ρ2, μ2, S2, x2, e2, r2, f2⟩
  have q2 := q1.mono x2
  cases hd : s.its.drop i with
  | nil =>
    rw [hd] at f2
    unfold frGo at f2
    have hi' : i = s.its.length := by
      have := List.drop_eq_nil_iff.mp hd
      omega
    split at f2
    · rename_i hg
      subst f2
      exact .inl ⟨hi' ▸ (hJ μ2 _ H2 x2 r2 hg).1, SatF.nx q2 r2 e2⟩
    · subst f2; exact q2.elim
  | cons d ds =>
    rw [hd] at f2
    unfold frGo at f2
    obtain ⟨hget, hdr, hlt⟩ := drop_cons hd
    split at f2
    · rename_i hg
      obtain ⟨hgo, hy⟩ := (hJ μ2 _ H2 x2 r2 hg).2 i d hget
      refine .inr ⟨hgo, fun σ' H' => ∃ ρi μi Si, Ext μ1 H1 μi H' ∧ EnvR F none μi H' ρi σ' ∧ Rel F μi Si H' ∧ frGo s.gd t f ds ρi Si = fl, fun σ' H' ⟨ρi, μi, Si, a1, a2, a3, a4⟩ => ⟨s.its.length - (i + 1), by omega, rfl, hlt, ρi, μi, Si, a1, a2, a3, by rw [hdr]; exact a4⟩, fun x H3 hyl => ?_⟩
      obtain ⟨x3, r3, rd⟩ := hy x H3 hyl
      cases ha : asT t d ρ2 with
      | none => rw [ha] at f2; subst f2; exact q2.elim
      | some ρ3 =>
        rw [ha] at f2
        rw [← hk]
        refine EnvR.asT (e2.mono x3) rd ha (fun q hq => nomatch hq) fun σ4 e4 => ⟨ρ3, μ2, S2, e4, r3, ?_⟩
        have f3 : (f ρ3 S2).bind (fun ρ'' S' => frGo s.gd t f ds ρ'' S') = fl := f2
        have q3 := q2.mono x3
        cases hf : f ρ3 S2 with
        | nx ρ5 S5 =>
          rw [hf] at f3
          exact fun μ5 H5 σ5 x5 r5 e5 => ⟨ρ5, μ5, S5, (x2.trans x3).trans x5, e5, r5, f3⟩
        | rt d S5 => rw [hf] at f3; subst f3; exact q3
        | ex y ρ5 S5 => rw [hf] at f3; subst f3; exact q3
        | bad => rw [hf] at f3; subst f3; exact q3
    · subst f2; exact q2.elim
end
end Ev
end
section
set_option Elab.async false
set_option linter.all false
set_option maxRecDepth 100000
set_option maxHeartbeats 4000000
set_option autoImplicit false
/-! Ev, part L: raise, try. -/
namespace Ev
open PySem PySem.Spec PyProof.Rows L2

section
variable {F : Fx} {μ : Mu} {H H' : Hp}
theorem Ext.sup (h : ∀ b o, H b = some o → H' b = some o) : Ext μ H μ H' := ⟨⟨[], by simp⟩, fun a o m e => ⟨h a o e, m⟩⟩
theorem Rel.sup {S : List O} (r : Rel F μ S H) (h : ∀ b o, H b = some o → H' b = some o) : Rel F μ S H' :=
  ⟨r.len, r.nd, fun n o a e1 e2 => by
    have q := r.obj n o a e1 e2
    obtain ⟨u, hu⟩ := q.some
    exact q.to (Ext.sup h) (by rw [hu]; exact h a u hu)⟩
end
section
variable {X : Cx} {F : Fx} {W : WX} {hi : Option Hi}
/-- raise C(), C without an own __init__ -/
theorem sS_rse0 {C : Nat} {fs : List Nat} {bmB : List Value} {B newId initId : String} {x : Str} {p p2 pos : Pos} (hc : X.calm = true) (tk : Takes X W) (Fb : ExcBaseFacts B newId initId bmB) (q : PySem.W.excIn X.K (F.ca C) bmB newId = true) (gC : X.mg x = some (.ref (F.ca C)))
    (kC : PySem.W.keepIn X.K (.ref (F.ca C)) = true) (r : Raises X (.ref (F.ca C))) (hg : Gl X x) (hdb : (x == ("__debug__" : Str)) = false) (hfs : fs = []) :
    PS X (.Raise (some (.Call (.Name x p) [] [] p2)) none pos) (tS F W hi fun ρ S => (R.ok [] S).fl ρ fun ds S => if ds.length = fs.length then .ex ⟨C, fs, ds⟩ ρ S else .bad) := by
  subst hfs
  refine PS.imp (ps_raise hc tk (pmk_own0 Fb q gC kC r hg hdb)) ?_
  intro En σ H ⟨ρ, μ, S, e, rel, q⟩
  exact q μ H σ _ none (Ext.refl _ _) rel e ⟨rfl, .inl ⟨rfl, rfl, rfl⟩⟩
/-- self.f = p: an own exception's __init__ -/
def spI1 (K : PySem.W.Frag) (f : Str) : Sp := fun vs H Q E => ∃ (a C : Addr) (y : V), vs = [.ref a, y] ∧ H a = some (exo a C none) ∧ OexC K C ∧ PySem.W.findIn K (.ref C) f = some none ∧
  ∀ dx, H dx = none → dx ≠ a → Q .non (upd (upd H dx (exd dx [(f, y)])) a (exo a C (some dx)))
theorem init1 {P : Program} {w : World} {K : PySem.W.Frag} {mg : Str → Option Value} {base : Heap} {x qual f sn pn : Str} {params : Arguments} {scope : Scope} {dvs : List V} {kws : List (Str × V)} {fa : Addr} {fd : FuncData} {p1 p2 p3 pos : Pos}
    (Fd : FunD K x qual params [.Assign [.Attribute (.Name sn p1) f p2] (.Name pn p3) pos] scope dvs kws fa fd) (S : FnScope [sn, pn] [sn, pn] scope) (h1 : (sn == ("__debug__" : Str)) = false) (h2 : (sn == ("__classdict__" : Str)) = false) (h3 : (pn == ("__debug__" : Str)) = false) (h4 : (pn == ("__classdict__" : Str)) = false) :
    FnOk P w K mg base (L2.CX P w) 1 fa fd [sn, pn] (spI1 K f) := by
  refine Fd.ok S (fun vs H Q E ⟨a, C, y, e, _⟩ => by rw [e]; rfl) fun cdv A outer s H vs Q E hr h => ?_
  obtain ⟨a, C, y, e, ha, hC, hf, hq⟩ := h
  have v1 : Vis scope sn := by rcases S.par sn (by simp) with z | z; exact .inl z; exact .inr (.inl z)
  have v2 : Vis scope pn := by rcases S.par pn (by simp) with z | z; exact .inl z; exact .inr (.inl z)
  refine ⟨_, pss_one (ps_ost (pe_var (i := 0) (by rfl) v1 h1 h2) (pe_var (i := 1) (by rfl) v2 h3 h4) (by rfl)), ?_⟩
  subst e
  exact ⟨y, rfl, .ref a, rfl, a, C, rfl, hC, hf, .inl ⟨ha, fun dx n ne => hq dx n ne⟩⟩
/-- raise C(e) -/
theorem sS_rse1 {C f : Nat} {fn : Str} {fs : List Nat} {fI : Addr} {fd : FuncData} {sn pn x : Str} {k : Nat} {e : Expr} {g : Env' → List O → R D} {p p2 pos : Pos} (hc : X.calm = true) (tk : Takes X W) (T : OexC X.K (F.ca C)) (iC : PySem.W.findIn X.K (.ref (F.ca C)) "__init__" = some (some (.ref fI)))
    (tI : PySem.W.typeIn X.K (.ref fI) = some (.type "function")) (F1 : FnOk X.prog X.w X.K X.mg X.base (L2.CX X.prog X.w) 1 fI fd [sn, pn] (spI1 X.K fn)) (hr : Room (k + 3) X.A) (hb : Binds X.K fd [sn, pn] []) (hg : Gl X x) (hm : X.mg x = some (.ref (F.ca C)))
    (he : PE X e (tE F W hi g)) (hdb : (x == ("__debug__" : Str)) = false) (hp : plainA e = true) (hfs : fs = [f]) (hfn : F.nm f = fn) (hf : f < F.an.length) (hno : PySem.W.findIn X.K (.ref (F.ca C)) fn = some none) :
    PS X (.Raise (some (.Call (.Name x p) [e] [] p2)) none pos) (tS F W hi fun ρ S => (((g ρ S).bind fun d S => (R.ok [] S).bind fun ds S => R.ok (d :: ds) S)).fl ρ fun ds S => if ds.length = fs.length then .ex ⟨C, fs, ds⟩ ρ S else .bad) := by
  subst hfs
  have ha : PA X [e] (tCons (tE F W hi g) tNil) := pa_cons he pa_nil (star_is hp)
  refine PS.imp (ps_raise hc tk (pmk_oex T iC tI F1 (hr.mono (by omega)) hb .nil passL hg hm ha hdb (star_is hp) (by rfl))) ?_
  intro En σ H ⟨ρ, μ, S, e, rel, q⟩
  have q' : SatF F hi W En μ H ((g ρ S).fl ρ fun d S => .ex ⟨C, [f], [d]⟩ ρ S) := by
    have e3 : ((((g ρ S).bind fun d S => (R.ok [] S).bind fun ds S => R.ok (d :: ds) S)).fl ρ fun ds S => if ds.length = [f].length then Fl.ex ⟨C, [f], ds⟩ ρ S else .bad) = ((g ρ S).fl ρ fun d S => .ex ⟨C, [f], [d]⟩ ρ S) := by
      cases g ρ S <;> rfl
    rw [← e3]; exact q
  refine ⟨ρ, μ, S, e, rel, (SatF.fl e q').imp fun d μ1 S1 H1 x1 r1 q1 v rv => ⟨by simp, fun a hn => ?_⟩⟩
  refine ⟨a, F.ca C, v, rfl, upd_same, T, hno, fun dx hdx hne => ?_⟩
  have hdx1 : H1 dx = none := by rw [upd_ne hne] at hdx; exact hdx
  refine ⟨rfl, dx, [(fn, v)], upd_same, by rw [upd_ne hne, upd_same], hdx1, ?_⟩
  have sup : ∀ b o, H1 b = some o → upd (del (upd (upd (upd H1 a (exo a (F.ca C) none)) dx (exd dx [(fn, v)])) a (exo a (F.ca C) (some dx))) a) dx (.xd [(fn, v)]) b = some o := fun b o hb => by
    have nb : b ≠ dx := ne_of_none hb hdx1
    have na : b ≠ a := ne_of_none hb hn
    rw [upd_ne nb, del_ne na, upd_ne na, upd_ne nb, upd_ne na]
    exact hb
  have xs : Ext μ1 H1 μ1 _ := Ext.sup sup
  refine q1 μ1 _ σ _ (some dx) xs (r1.sup sup) ((e.mono x1).mono xs) ⟨rfl, .inr ⟨dx, [(fn, v)], rfl, r1.fresh hdx1, upd_same, by simp, rfl, fun g hg => ?_, fun g d' hl => ?_⟩⟩
  · have : g = f := by simpa using hg
    rw [this]; exact hf
  · unfold lookF at hl
    split at hl
    · rename_i hg
      cases hl
      subst hg hfn
      exact ⟨v, by rw [List.lookup_cons, beq_self_eq_true], rv.mono xs⟩
    · unfold lookF at hl; cases hl

/-! ### try -/
inductive HsRel (K : PySem.W.Frag) (F : Fx) (t : Ct) (C : Orc) : Hs → List Hd → Prop
  | nil : HsRel K F t C .nil []
  | cons {T : TyC} {n : Option Nat} {b : Ss} {r : Hs} {c : Value} {l : List Hd} (hx : ∀ x v, xisB t x T = some v → PySem.W.exmOne K (.ref (F.ca x.c)) c = some v) (hr : HsRel K F t C r l) :
      HsRel K F t C (.cons T n b r) (⟨c, n, fun a cls d En σ H => ∃ x, tS F W0 (some ⟨a, cls, d, x, n⟩) (fun ρ S => evSs t C b (some x) ρ S) En σ H⟩ :: l)
theorem nox_sat {F : Fx} {h : Hi} {En : Ends} {μ : Mu} {H : Hp} {f : Fl} (hs : SatF F none W En μ H f.nox) : SatF F (some h) W0 En μ H f := by
  cases f with
  | nx ρ S => exact fun μ' H' σ' x r e => hs μ' H' σ' x r (EnvR.of e.1)
  | rt d S => exact hs
  | ex y ρ S => exact hs.elim
  | bad => exact hs
theorem hs_reads {K : PySem.W.Frag} {F : Fx} {t : Ct} {C : Orc} {En : Ends} {x : Exn} {cls : Value} {dd : Option Addr} {ρ : Env'} {σ : L2.St} {μ : Mu} {S : List O} {H : Hp} {hs : Hs} {l : List Hd} (hr : HsRel K F t C hs l)
    (rel : Rel F μ S H) (e : EnvR F none μ H ρ σ) (xr : XRep F μ H x cls dd) (h : SatF F none W En μ H (evHs t C hs x ρ S)) : wMix K W En l cls dd σ H := by
  induction hr with
  | nil => exact h μ H σ cls dd (Ext.refl _ _) rel e xr
  | @cons T n b r c l hx hr ih =>
    unfold evHs at h
    split at h
    · rename_i hb
      refine ⟨true, by rw [xr.1]; exact hx x true hb, fun _ a hn => ?_, fun z => (Bool.false_ne_true z.symm).elim⟩
      cases n with
      | none => exact ⟨x, ρ, μ, S, ⟨e.1, fun h' eh => by cases eh; exact ⟨xr, fun i z => nomatch z⟩⟩, rel, nox_sat h⟩
      | some i =>
        dsimp only at h
        split at h
        · rename_i hl
          have hl' : i < σ.length := by rw [← e.1.1]; exact hl
          refine ⟨x, ρ.set i none, μ, S, ⟨⟨by simp [e.1.1], fun j d hj => ?_⟩, fun h' eh => by
            cases eh
            refine ⟨xr, fun j ej => ?_⟩
            cases ej
            exact ⟨List.getElem?_set_self hl', List.getElem?_set_self hl⟩⟩, rel, nox_sat (W := W) ?_⟩
          · by_cases hij : i = j
            · subst hij; rw [List.getElem?_set_self hl] at hj; cases hj
            · rw [List.getElem?_set_ne hij] at hj ⊢
              exact e.1.2 j d hj
          · cases hf : (evSs t C b (some x) (ρ.set i none) S).nox with
            | nx ρ' S' =>
              rw [hf] at h
              refine fun μ' H' σ' x' r' e' => h μ' H' (σ'.set i none) x' r' (EnvR.of ⟨by simp [e'.1.1], fun j d hj => ?_⟩)
              by_cases hij : i = j
              · subst hij
                rw [List.getElem?_set_self'] at hj
                cases hw : (ρ' : List (Option D))[i]? with
                | none => rw [hw] at hj; cases hj
                | some z => rw [hw] at hj; cases hj
              · rw [List.getElem?_set_ne hij] at hj ⊢
                exact e'.1.2 j d hj
            | rt d S' => rw [hf] at h; exact h
            | ex y ρ' S' =>
              cases hg : evSs t C b (some x) (ρ.set i none) S <;> rw [hg] at hf <;> cases hf
            | bad => rw [hf] at h; exact h.elim
        · exact h.elim
    · rename_i hb
      exact ⟨false, by rw [xr.1]; exact hx x false hb, fun z => (Bool.false_ne_true z).elim, fun _ => ih h⟩
    · exact h.elim
theorem sS_tri {t : Ct} {C : Orc} {body : List Stmt} {h₀ : ExceptHandler} {hds : List ExceptHandler} {hs : Hs} {l : List Hd} {f : Env' → List O → Fl} {pos : Pos} (h1 : X.stack = X.env :: X.outer) (h2 : X.env.frame = some X.env.locals) (hN : X.N.Nodup) (tk : Takes X W)
    (hb : ∀ (W : WX) (pn : List (Addr × Obj)) (xe : Value → Shared → Prop), Takes (X.tr pn xe) W → PassesOwn (model X.prog X.w) X.A X.env xe → PSs (X.tr pn xe) body (tS F W none f))
    (hh : HdsMix X (h₀ :: hds) l) (hr : HsRel X.K F t C hs l) :
    PS X (.Try body (h₀ :: hds) [] [] pos) (tS F W none fun ρ S => match f ρ S with
      | .ex x ρ' S' => evHs t C hs x ρ' S'
      | g => g) := by
  refine PS.imp (ps_try_mix (tb := fun W => tS F W none f) h1 h2 hN tk hb hh) ?_
  intro En σ H ⟨ρ, μ, S, e, rel, q⟩
  refine ⟨ρ, μ, S, e, rel, ?_⟩
  have q' : SatF F none W En μ H (match f ρ S with
      | .ex x ρ' S' => evHs t C hs x ρ' S'
      | g => g) := q
  cases hf : f ρ S with
  | nx ρ' S' => rw [hf] at q'; exact q'
  | rt d S' => rw [hf] at q'; exact q'
  | bad => rw [hf] at q'; exact q'
  | ex x ρ' S' =>
    rw [hf] at q'
    exact fun μ' H' σ' cls dd x1 r1 e1 xr => hs_reads hr r1 e1 xr (q'.mono x1)
end
end Ev
end
section
set_option Elab.async false
set_option linter.all false
set_option maxRecDepth 100000
set_option maxHeartbeats 4000000
set_option autoImplicit false
/-! Ev, part M: the checker of expressions, and that what it passes is as the evaluator says. -/
namespace Ev
open PySem PySem.Spec PyProof.Rows L2

/-- the names: of defs, of constants, of classes, of attributes -/
structure Tb where
  fn : List Str
  gl : List Str
  cl : List Str
  an : List Str
/-- where an expression stands -/
structure Sc where
  N : List Str
  sc : Scope
  fn : Str → Bool
  cm : Bool
  hv : Option Nat
def Sc.blk (c : Sc) (s : Scope) : Sc := { N := c.N, sc := relS s c.sc, fn := fun x => s.names.lookup x == some .cell, cm := true, hv := none }
def visB (sc : Scope) (x : Str) : Bool := match sc.names.lookup x with
  | some .local => true
  | some .cell => true
  | some .free => true
  | _ => false
def glB (sc : Scope) (x : Str) : Bool := match sc.names.lookup x with
  | some .globalImplicit => true
  | _ => false
def dbB (x : Str) : Bool := !(x == ("__debug__" : Str)) && !(x == ("__classdict__" : Str))
def bltN : List Str := ["len", "abs", "int", "tuple", "list", "all", "any", "sum", "max", "min", "str", "isinstance", "range", "zip", "enumerate", "bool", "dict", "ValueError", "sorted"]
def bltB (c : Sc) (x : Str) : Bool := glB c.sc x && bltN.contains x
def varB (c : Sc) (i : Nat) (x : Str) : Bool := decide (c.N[i]? = some x) && visB c.sc x && dbB x
def BI.nm : BI → Str
  | .len => "len"
  | .abs => "abs"
  | .int => "int"
  | .tuple => "tuple"
  | .list => "list"
  | .all => "all"
  | .any => "any"
  | .sum => "sum"
  | .max => "max"
  | .min => "min"
  | .str => "str"
  | .sorted => "sorted"
  | _ => ""
def BI.ok : BI → Bool
  | .len | .abs | .int | .tuple | .list | .all | .any | .sum | .max | .min | .str | .sorted => true
  | _ => false
/-- names a class -/
def clsB (tb : Tb) (ok : Nat → Bool) (c : Sc) (T : TyC) (e : Expr) : Bool := match e with
  | .Name x _ => (match T with
    | .int => decide (x = "int") && glB c.sc x
    | .bool => decide (x = "bool") && glB c.sc x
    | .str => decide (x = "str") && glB c.sc x
    | .list => decide (x = "list") && glB c.sc x
    | .tuple => decide (x = "tuple") && glB c.sc x
    | .dict => decide (x = "dict") && glB c.sc x
    | .value => decide (x = "ValueError") && glB c.sc x
    | .own k => decide (tb.cl[k]? = some x) && glB c.sc x && dbB x && ok k)
  | _ => false
def clssB (tb : Tb) (ok : Nat → Bool) (c : Sc) : List TyC → List Expr → Bool
  | [], [] => true
  | T :: Ts, e :: es => clsB tb ok c T e && clssB tb ok c Ts es
  | _, _ => false
def notSet : Expr → Bool
  | .Set .. => false
  | _ => true
theorem notSet_is {e : Expr} {env : Env} (h : notSet e = true) (x : Value) : foldedSetIterable e env x = pure x := by
  cases e <;> first | exact (Bool.false_ne_true h).elim | rfl
def ownOf (c : Sc) (vs : List Nat) : List (Str × Nat) := vs.map fun i => (c.N.getD i "", i)

section
variable (tb : Tb) (t : Ct)
mutual
def okT (c : Sc) : T → Expr → Bool
  | .nm i, e => (match e with
    | .Name x _ => decide (c.N[i]? = some x) && (match c.sc.names.lookup x with
      | some .local => true
      | some .cell => c.fn x
      | _ => false)
    | _ => false)
  | .tup ts, e => (match e with
    | .Tuple es _ _ => c.cm && es.all plainA && okTs c ts es
    | _ => false)
def okTs (c : Sc) : Ts → List Expr → Bool
  | .nil, es => es.isEmpty
  | .cons t r, es => (match es with
    | e :: es => okT c t e && okTs c r es
    | [] => false)
end
mutual
def okE : E → Sc → Expr → Bool
  | .non, c, e => (match e with
    | .Constant .none _ _ => true
    | _ => false)
  | .bl b, c, e => (match e with
    | .Constant (.bool b') _ _ => b == b'
    | _ => false)
  | .int i, c, e => (match e with
    | .Constant (.int j) _ _ => decide (i = j)
    | _ => false)
  | .str cs, c, e => (match e with
    | .Constant (.str x) _ _ => decide (x = mkS cs)
    | _ => false)
  | .var i, c, e => (match e with
    | .Name x _ => varB c i x
    | _ => false)
  | .glb g, c, e => (match e with
    | .Name x _ => decide (tb.gl[g]? = some x) && glB c.sc x && dbB x
    | _ => false)
  | .bin o a b, c, e => (match e with
    | .BinOp x o' y _ => decide (o = o') && okE a c x && okE b c y
    | _ => false)
  | .neg a, c, e => (match e with
    | .UnaryOp .USub x _ => okE a c x
    | _ => false)
  | .nt a, c, e => (match e with
    | .UnaryOp .Not x _ => tsB x && okE a c x
    | _ => false)
  | .and a b, c, e => (match e with
    | .BoolOp .And (x :: y :: r) p => tsB x && okE a c x && (match r with
      | [] => tsB y && okE b c y
      | _ :: _ => okE b c (.BoolOp .And (y :: r) p))
    | _ => false)
  | .or a b, c, e => (match e with
    | .BoolOp .Or (x :: y :: r) p => tsB x && okE a c x && (match r with
      | [] => tsB y && okE b c y
      | _ :: _ => okE b c (.BoolOp .Or (y :: r) p))
    | _ => false)
  | .cmp o a b, c, e => (match e with
    | .Compare x [o'] [y] _ => decide (o = o') && !behindInMarks o y && okE a c x && okE b c y
    | _ => false)
  | .chain o1 o2 a b d, c, e => (match e with
    | .Compare x [p1, p2] [y, z] _ => decide (o1 = p1) && decide (o2 = p2) && !lastMarks [o1, o2] [y, z] && okE a c x && okE b c y && okE d c z
    | _ => false)
  | .ite k a b, c, e => (match e with
    | .IfExp x y z _ => tsB x && okE k c x && okE a c y && okE b c z
    | _ => false)
  | .tup es, c, e => (match e with
    | .Tuple xs _ _ => okEs es c xs
    | _ => false)
  | .lst es, c, e => (match e with
    | .List xs _ => okEs es c xs
    | _ => false)
  | .emp k, c, e => (match e with
    | .Dict [] [] _ => true
    | _ => false)
  | .flst es, c, e => (match e with
    | .List xs _ => okEs es c xs
    | _ => false)
  | .femp k, c, e => (match e with
    | .Dict [] [] _ => true
    | _ => false)
  | .idx a i, c, e => (match e with
    | .Subscript x y _ => plainI y && okE a c x && okE i c y
    | _ => false)
  | .slc a lo hi, c, e => (match e with
    | .Subscript x (.Slice l u none _) _ => okE a c x && okO lo c l && okO hi c u
    | _ => false)
  | .attr a f, c, e => (match e with
    | .Attribute x fn _ => decide (tb.an[f]? = some fn) && plainB x && okE a c x
    | _ => false)
  | .call f es, c, e => (match e with
    | .Call (.Name x _) (y :: ys) [] _ => c.cm && glB c.sc x && decide (tb.fn[f]? = some x) && dbB x && okEs es c (y :: ys)
    | _ => false)
  | .make _ _, _, _ => false
  | .bi b es, c, e => (match e with
    | .Call (.Name x _) (y :: ys) [] _ => b.ok && c.cm && glB c.sc x && decide (b.nm = x) && okEs es c (y :: ys)
    | _ => false)
  | .meth m o es, c, e => (match e with
    | .Call (.Attribute x nm ap) ys [] cp => decide (m.nm = nm) && decide (m ≠ .tindex) && plainB x && okE o c x && (ap.endLine == cp.line) && decide (ys.length < 30) && okEs es c ys
    | _ => false)
  | .omth _ _ _, _, _ => false
  | .isi a ts, c, e => (match e with
    | .Call (.Name x _) [y, ce] [] _ => decide (x = "isinstance") && glB c.sc x && plainA y && okE a c y && (match ce with
      | .Tuple ces _ _ => decide (ts ≠ []) && decide (ts.length ≤ 100) && clssB tb t.icl c ts ces
      | _ => (match ts with
        | [T] => clsB tb t.icl c T ce
        | _ => false))
    | _ => false)
  | .xf f, c, e => (match e with
    | .Attribute (.Name x _) fn _ => (match c.hv with
      | some i => varB c i x && decide (tb.an[f]? = some fn)
      | none => false)
    | _ => false)
  | .xis T, c, e => (match e with
    | .Call (.Name x _) [.Name y _, ce] [] _ => (match c.hv with
      | some i => decide (x = "isinstance") && glB c.sc x && varB c i y && clsB tb t.exc c T ce
      | none => false)
    | _ => false)
  | .lc elt tg it cd vs, c, e => (match e with
    | .ListComp x [⟨g, iter, ifs, 0⟩] s _ => c.cm && notSet iter && blkC c.N c.sc s (ownOf c vs) && (tSl tg).all vs.contains && okI it c g iter && okT (c.blk s) tg g && okC cd (c.blk s) ifs && okE elt (c.blk s) x
    | _ => false)
  | .lc2 elt tg it tg1 it1 vs vs1, c, e => (match e with
    | .ListComp x [⟨g, iter, [], 0⟩, ⟨g1, iter1, [], 0⟩] s _ => c.cm && notSet iter && notSet iter1 && blkC c.N c.sc s (ownOf c vs) && (tSl tg).all vs.contains && (tSl tg1).all vs1.contains && vs1.all vs.contains && okI it c g iter && okT (c.blk s) tg g && okI it1 (c.blk s) g1 iter1 && okT (c.blk s) tg1 g1 && okE elt (c.blk s) x
    | _ => false)
  | .frz a, c, e => plainT e && okE a c e
def okEs : Es → Sc → List Expr → Bool
  | .nil, c, es => es.isEmpty
  | .cons a r, c, es => (match es with
    | e :: es => plainA e && okE a c e && okEs r c es
    | [] => false)
def okO : OE → Sc → Option Expr → Bool
  | .no, c, e => (match e with
    | none => true
    | _ => false)
  | .yes a, c, e => (match e with
    | some e => okE a c e
    | none => false)
def okC : OE → Sc → List Expr → Bool
  | .no, c, es => es.isEmpty
  | .yes a, c, es => (match es with
    | [e] => tsB e && okE a c e
    | _ => false)
def okI : I → Sc → Expr → Expr → Bool
  | .of a, c, g, e => okE a c e
  | .rng a, c, g, e => (match e with
    | .Call (.Name x _) [y] [] _ => decide (x = "range") && glB c.sc x && plainA y && okE a c y
    | _ => false)
  | .rng2 a b, c, g, e => (match e with
    | .Call (.Name x _) [y, z] [] _ => decide (x = "range") && glB c.sc x && plainA y && plainA z && okE a c y && okE b c z
    | _ => false)
  | .zip a b, c, g, e => (match g, e with
    | .Tuple _ _ _, .Call (.Name x _) [y, z] [] _ => decide (x = "zip") && glB c.sc x && plainA y && plainA z && okE a c y && okE b c z
    | _, _ => false)
  | .enm a, c, g, e => (match g, e with
    | .Tuple _ _ _, .Call (.Name x _) [y] [] _ => decide (x = "enumerate") && glB c.sc x && plainA y && okE a c y
    | _, _ => false)
end
end
end Ev
end
section
set_option Elab.async false
set_option linter.all false
set_option maxRecDepth 100000
set_option maxHeartbeats 4000000
set_option autoImplicit false
/-! Ev, part N: what the checker passes is as the evaluator says: expressions. -/
namespace Ev
open PySem PySem.Spec PyProof.Rows L2

structure Gx where
  F : Fx
  t : Ct
  C : Orc
  k : Nat
  P : Program
  w : World
  mg : Str → Option Value
  base : Heap
  tb : Tb
/-- a def, called by its own name -/
structure FnA (G : Gx) (f : Nat) (fa : Addr) : Prop where
  kp : PySem.W.keepIn G.F.K (.ref fa) = true
  ex : ∃ (fd : FuncData) (ps : List Str) (n : Nat), Binds G.F.K fd ps [] ∧ FnOk G.P G.w G.F.K G.mg G.base (L2.CX G.P G.w) (G.k + 3) fa fd ps (spD G.F n (G.C f)) ∧ ∀ ds S, G.C f ds S ≠ .bad → ds.length = n
/-- what is known of the law's program -/
structure Gk (K : PySem.W.Frag) (F : Fx) (t : Ct) (tb : Tb) (mg : Str → Option Value) : Prop where
  hK : F.K = K
  an : F.an = tb.an
  blt : ∀ x ∈ bltN, mg x = none
  glv : ∀ g x, tb.gl[g]? = some x → ∃ v u, mg x = some u ∧ RelV v u ∧ ∀ μ H, Rep F μ H (t.glb g) v
  clv : ∀ c x, tb.cl[c]? = some x → mg x = some (.ref (F.ca c))
  fld : ∀ C f, t.fld C f = true → Cls K (F.ca C) ∧ NoAttr K (F.ca C) (F.nm f) ∧ f < F.an.length
  icl : ∀ C, t.icl C = true → ClsF K (F.ca C)
  kitI : ∀ C c, t.icl C = true → t.icl c = true → PySem.W.kitOne K (.ref (F.ca C)) (.ref (F.ca c)) = some (t.sub C c)
  kitT : ∀ C T, t.icl C = true → T ∈ ["int", "bool", "str", "list", "tuple", "dict"] → PySem.W.kitOne K (.ref (F.ca C)) (.type T) = some false
  kitN : ∀ n c, t.icl c = true → n ∈ ["NoneType", "bool", "int", "str", "tuple", "list", "dict"] → PySem.W.kitOne K (.type n) (.ref (F.ca c)) = some false
  xfc : ∀ c f, (t.xfs c).contains f = true → XfC K (F.ca c) ∧ PySem.W.findIn K (.ref (F.ca c)) (F.nm f) = some none ∧ f < F.an.length
  xis : ∀ c, t.exc c = true → ExcC K (F.ca c)
  xkit : ∀ c d, t.exc c = true → t.exc d = true → PySem.W.kitOne K (.ref (F.ca c)) (.ref (F.ca d)) = some (t.sub c d) ∧ PySem.W.exmOne K (.ref (F.ca c)) (.ref (F.ca d)) = some (t.sub c d)
  xval : ∀ c, t.exc c = true → PySem.W.kitOne K (.ref (F.ca c)) (.type "ValueError") = some (t.val c) ∧ PySem.W.exmOne K (.ref (F.ca c)) (.type "ValueError") = some (t.val c)
structure Cok (G : Gx) (c : Sc) (X : Cx) (W : WX) (hi : Option Hi) : Prop where
  prog : X.prog = G.P
  w : X.w = G.w
  K : X.K = G.F.K
  mg : X.mg = G.mg
  base : X.base = G.base
  N : X.N = c.N
  nd : c.N.Nodup
  sc : X.env.scope = c.sc
  fn : X.fn = c.fn
  un : X.A.units + 64 < cLine
  tk : Takes X W
  cm : c.cm = true → X.calm = true ∧ Room (G.k + 3) X.A ∧ hi = none
  hv1 : hi = none → c.hv = none
  hv2 : ∀ h, hi = some h → h.i = c.hv
  hx : ∀ h, hi = some h → ∃ (X0 : Cx) (oe : Obj) (pn : List (Addr × Obj)), X = X0.suite h.a ((h.a, oe) :: pn) ∧ Zc h.cls h.d oe ∧ ∃ vs, oe.data = .fields vs

section
variable {G : Gx} {c : Sc} {X : Cx} {W : WX} {hi : Option Hi}
theorem Cok.hk (ok : Cok G c X W hi) : G.F.K = X.K := ok.K.symm
theorem Cok.gl (ok : Cok G c X W hi) {x : Str} (h : glB c.sc x = true) : Gl X x := by
  unfold glB at h
  show X.env.scope.names.lookup x = _
  rw [ok.sc]
  split at h
  · assumption
  · cases h
theorem Cok.vis (ok : Cok G c X W hi) {x : Str} (h : visB c.sc x = true) : Vis X.env.scope x := by
  unfold visB at h
  unfold Vis
  rw [ok.sc]
  split at h
  · rename_i e; exact .inl e
  · rename_i e; exact .inr (.inl e)
  · rename_i e; exact .inr (.inr e)
  · cases h
theorem Cok.hv (ok : Cok G c X W hi) (i : Nat) (h : c.hv = some i) : ∃ q, hi = some q ∧ q.i = some i := by
  cases hi with
  | none => rw [ok.hv1 rfl] at h; cases h
  | some q => exact ⟨q, rfl, (ok.hv2 q rfl).trans h⟩
theorem dbB_1 {x : Str} (h : dbB x = true) : (x == ("__debug__" : Str)) = false := by
  have := (Bool.and_eq_true_iff.mp h).1
  simpa using this
theorem dbB_2 {x : Str} (h : dbB x = true) : (x == ("__classdict__" : Str)) = false := by
  have := (Bool.and_eq_true_iff.mp h).2
  simpa using this
theorem Cok.var (ok : Cok G c X W hi) {i : Nat} {x : Str} (h : varB c i x = true) : X.N[i]? = some x ∧ Vis X.env.scope x ∧ (x == ("__debug__" : Str)) = false ∧ (x == ("__classdict__" : Str)) = false := by
  have h1 := Bool.and_eq_true_iff.mp h
  have h2 := Bool.and_eq_true_iff.mp h1.1
  exact ⟨by rw [ok.N]; exact of_decide_eq_true h2.1, ok.vis h2.2, dbB_1 h1.2, dbB_2 h1.2⟩
theorem Cok.blt (ok : Cok G c X W hi) (gk : Gk X.K G.F G.t G.tb G.mg) {x : Str} (h : x ∈ bltN) : X.mg x = none := by
  rw [ok.mg]; exact gk.blt x h
/-- a comprehension's block -/
theorem Cok.blk (ok : Cok G c X W none) (hc : c.cm = true) (s : Shared) (H : Hp) (scope : Scope) (cl : List (Str × Addr)) (C : Addr) (fp : List Addr) : Cok G (c.blk scope) (X.blk s H scope (compEnvC scope cl C X.env) fp) W0 none where
  prog := ok.prog
  w := ok.w
  K := ok.K
  mg := ok.mg
  base := ok.base
  N := ok.N
  nd := ok.nd
  sc := by
    show relabel scope X.env = relS scope c.sc
    rw [← ok.sc]; rfl
  fn := rfl
  un := ok.un
  tk := takes0
  cm := fun _ => ok.cm hc
  hv1 := fun _ => rfl
  hv2 := fun h e => nomatch e
  hx := fun h e => nomatch e
theorem an_of {F : Fx} {f : Nat} {x : Str} {an : List Str} (e : F.an = an) (h : an[f]? = some x) : F.nm f = x ∧ f < F.an.length := by
  subst e
  obtain ⟨h1, h2⟩ := List.getElem?_eq_some_iff.mp h
  exact ⟨by unfold Fx.nm; rw [getD_of h1]; exact h2, h1⟩
theorem kb (a b : String) {r : Bool} (h : kitB a b = some r) (K : PySem.W.Frag) : PySem.W.kitOne K (.type a) (.type b) = some r := kit_ty h
/-- a class of isinstance -/
theorem clsE_ty (gk : Gk X.K G.F G.t G.tb G.mg) {T : TyC} {s : String} (hT : ∀ n b, kitD G.t n T = some b → (∀ C, n = .ins C → G.t.icl C = true ∧ b = false)) (hm : s ∈ ["int", "bool", "str", "list", "tuple", "dict"])
    (hb : ∀ n b, (∀ C, n ≠ .ins C) → kitD G.t n T = some b → PySem.W.kitOne X.K (tnV G.F n) (.type s) = some b) : ∀ n b, kitD G.t n T = some b → PySem.W.kitOne X.K (tnV G.F n) (.type s) = some b := by
  intro n b h
  by_cases hn : ∃ C, n = .ins C
  · obtain ⟨C, rfl⟩ := hn
    obtain ⟨h1, rfl⟩ := hT _ b h C rfl
    exact gk.kitT C s h1 hm
  · exact hb n b (fun C e => hn ⟨C, e⟩) h
theorem ins_false {T : TyC} (h : ∀ k, T ≠ .own k) (h2 : T ≠ .value) : ∀ n b, kitD G.t n T = some b → (∀ C, n = .ins C → G.t.icl C = true ∧ b = false) := by
  intro n b hh C e
  subst e
  cases T with
  | own k => exact (h k rfl).elim
  | value => exact (h2 rfl).elim
  | _ =>
    simp only [kitD] at hh
    split at hh
    · rename_i z; cases hh; exact ⟨z, rfl⟩
    · cases hh
theorem Cok.clsE (ok : Cok G c X W hi) (gk : Gk X.K G.F G.t G.tb G.mg) {T : TyC} {e : Expr} (h : clsB G.tb G.t.icl c T e = true) : ∃ cv u, ClsE X G.F G.t e T cv u := by
  unfold clsB at h
  split at h
  · rename_i x p
    have bt : ∀ {s : String}, (s : Str) ∈ bltN → bootBuiltins (s : Str) = some (.type s) → (s : Str) ≠ "__name__" → ((s : Str) == ("__debug__" : Str)) = false → glB c.sc (s : Str) = true → PE X (.Name (s : Str) p) (tC (.ty s)) :=
      fun {s} hm hb hn hd hg => pe_bltn (ok.gl hg) (ok.blt gk hm) hb rfl hn hd
    have prims : ∀ {s : String} {T : TyC}, (∀ k, T ≠ .own k) → T ≠ .value → s ∈ ["int", "bool", "str", "list", "tuple", "dict"] → (s : Str) ∈ bltN → bootBuiltins (s : Str) = some (.type s) → (s : Str) ≠ "__name__" → ((s : Str) == ("__debug__" : Str)) = false →
        (kitB "NoneType" s = kitD G.t .non T ∧ kitB "bool" s = kitD G.t .bl T ∧ kitB "int" s = kitD G.t .int T ∧ kitB "str" s = kitD G.t .str T ∧ kitB "tuple" s = kitD G.t .tup T ∧ kitB "list" s = kitD G.t .lst T ∧ kitB "dict" s = kitD G.t .dct T) →
        (decide (x = (s : Str)) && glB c.sc x) = true → ∃ cv u, ClsE X G.F G.t (.Name x p) T cv u := by
      intro s T h1 h2 hm hb hv hn hd hk h
      have h' := Bool.and_eq_true_iff.mp h
      have e := of_decide_eq_true h'.1
      subst e
      refine ⟨.ty s, .type s, bt hb hv hn hd h'.2, .ty s, clsE_ty gk (ins_false h1 h2) hm fun n b hni hh => ?_, rfl⟩
      obtain ⟨k1, k2, k3, k4, k5, k6, k7⟩ := hk
      cases n with
      | non => exact kit_ty (k1.trans hh)
      | bl => exact kit_ty (k2.trans hh)
      | int => exact kit_ty (k3.trans hh)
      | str => exact kit_ty (k4.trans hh)
      | tup => exact kit_ty (k5.trans hh)
      | lst => exact kit_ty (k6.trans hh)
      | dct => exact kit_ty (k7.trans hh)
      | ins C => exact (hni C rfl).elim
    cases T with
    | int => exact prims (fun k z => nomatch z) (fun z => nomatch z) (by simp) (by decide +kernel) (by decide +kernel) (by decide +kernel) (by decide +kernel) (by refine ⟨?_, ?_, ?_, ?_, ?_, ?_, ?_⟩ <;> kernel_rfl) h
    | bool => exact prims (fun k z => nomatch z) (fun z => nomatch z) (by simp) (by decide +kernel) (by decide +kernel) (by decide +kernel) (by decide +kernel) (by refine ⟨?_, ?_, ?_, ?_, ?_, ?_, ?_⟩ <;> kernel_rfl) h
    | str => exact prims (fun k z => nomatch z) (fun z => nomatch z) (by simp) (by decide +kernel) (by decide +kernel) (by decide +kernel) (by decide +kernel) (by refine ⟨?_, ?_, ?_, ?_, ?_, ?_, ?_⟩ <;> kernel_rfl) h
    | list => exact prims (fun k z => nomatch z) (fun z => nomatch z) (by simp) (by decide +kernel) (by decide +kernel) (by decide +kernel) (by decide +kernel) (by refine ⟨?_, ?_, ?_, ?_, ?_, ?_, ?_⟩ <;> kernel_rfl) h
    | tuple => exact prims (fun k z => nomatch z) (fun z => nomatch z) (by simp) (by decide +kernel) (by decide +kernel) (by decide +kernel) (by decide +kernel) (by refine ⟨?_, ?_, ?_, ?_, ?_, ?_, ?_⟩ <;> kernel_rfl) h
    | dict => exact prims (fun k z => nomatch z) (fun z => nomatch z) (by simp) (by decide +kernel) (by decide +kernel) (by decide +kernel) (by decide +kernel) (by refine ⟨?_, ?_, ?_, ?_, ?_, ?_, ?_⟩ <;> kernel_rfl) h
    | value =>
      refine ⟨.ty "ValueError", .type "ValueError", ?_, .ty _, fun n b hh => ?_, rfl⟩
      · have h' := Bool.and_eq_true_iff.mp h
        have e := of_decide_eq_true h'.1
        subst e
        exact bt (by decide +kernel) (by decide +kernel) (by decide +kernel) (by decide +kernel) h'.2
      · cases n <;> exact nomatch hh
    | own k =>
      have h1 := Bool.and_eq_true_iff.mp h
      have h2 := Bool.and_eq_true_iff.mp h1.1
      have h3 := Bool.and_eq_true_iff.mp h2.1
      have hcl : G.tb.cl[k]? = some x := of_decide_eq_true h3.1
      have hic : G.t.icl k = true := h1.2
      refine ⟨.ref (G.F.ca k), .ref (G.F.ca k), pe_glob (ok.gl h3.2) (by rw [ok.mg]; exact gk.clv k x hcl) rfl (dbB_1 h2.2), .own _, fun n b hh => ?_, rfl⟩
      cases n with
      | ins C =>
        simp only [kitD] at hh
        split at hh
        · rename_i z; cases hh; exact gk.kitI C k z.1 z.2
        · cases hh
      | _ =>
        simp only [kitD] at hh
        rw [if_pos hic] at hh
        cases hh
        exact gk.kitN _ k hic (by simp)
  · cases h
theorem Cok.clsEs (ok : Cok G c X W hi) (gk : Gk X.K G.F G.t G.tb G.mg) : ∀ {Ts : List TyC} {es : List Expr}, clssB G.tb G.t.icl c Ts es = true → ∃ cvs us, ClsEs X G.F G.t es Ts cvs us ∧ cvs.length = Ts.length
  | [], [], _ => ⟨[], [], .nil, rfl⟩
  | T :: Ts, e :: es, h => by
    have h' := Bool.and_eq_true_iff.mp (show (clsB G.tb G.t.icl c T e && clssB G.tb G.t.icl c Ts es) = true from h)
    obtain ⟨cv, u, q⟩ := ok.clsE gk h'.1
    obtain ⟨cvs, us, r, hl⟩ := ok.clsEs gk h'.2
    exact ⟨cv :: cvs, u :: us, .cons q r, by simp [hl]⟩
  | [], _ :: _, h => nomatch h
  | _ :: _, [], h => nomatch h
/-- a class of a caught error -/
theorem Cok.xcls (ok : Cok G c X W hi) (gk : Gk X.K G.F G.t G.tb G.mg) {T : TyC} {e : Expr} (h : clsB G.tb G.t.exc c T e = true) :
    plainA e = true ∧ ((∀ n b, xisB G.t n T = some b → False) ∨ ∃ cv u, PE X e (tC cv) ∧ (∀ w, RelV cv w → w = u) ∧ ∀ k b, xisB G.t ⟨k, [], []⟩ T = some b → ExcC X.K (G.F.ca k) ∧ PySem.W.kitOne X.K (.ref (G.F.ca k)) u = some b) := by
  unfold clsB at h
  split at h
  · rename_i x p
    refine ⟨rfl, ?_⟩
    cases T with
    | value =>
      have h' := Bool.and_eq_true_iff.mp h
      have e := of_decide_eq_true h'.1
      subst e
      refine .inr ⟨.ty "ValueError", .type "ValueError", pe_bltn (ok.gl h'.2) (ok.blt gk (by decide +kernel)) (by decide +kernel) rfl (by decide +kernel) (by decide +kernel), fun w r => r, fun k b hh => ?_⟩
      simp only [xisB] at hh
      split at hh
      · rename_i z; cases hh; exact ⟨gk.xis k z, (gk.xval k z).1⟩
      · cases hh
    | own d =>
      have h1 := Bool.and_eq_true_iff.mp h
      have h2 := Bool.and_eq_true_iff.mp h1.1
      have h3 := Bool.and_eq_true_iff.mp h2.1
      have hcl : G.tb.cl[d]? = some x := of_decide_eq_true h3.1
      refine .inr ⟨.ref (G.F.ca d), .ref (G.F.ca d), pe_glob (ok.gl h3.2) (by rw [ok.mg]; exact gk.clv d x hcl) rfl (dbB_1 h2.2), fun w r => r, fun k b hh => ?_⟩
      simp only [xisB] at hh
      split at hh
      · rename_i z; cases hh; exact ⟨gk.xis k z.1, (gk.xkit k d z.1 z.2).1⟩
      · cases hh
    | _ => exact .inl fun n b hh => by simp only [xisB] at hh; cases hh
  · cases h
theorem bi_rule (hk : G.F.K = X.K) (hc : X.calm = true) (hu : X.A.units + 64 < cLine) : ∀ b : BI, b.ok = true → (∃ T, CallR X (.type T) (rPn G.F (biD b)) ∧ bootBuiltins b.nm = some (.type T)) ∨ (∃ T, CallR X (.builtin T) (rPn G.F (biD b)) ∧ bootBuiltins b.nm = some (.builtin T))
  | .len, _ => .inr ⟨_, cl_len hk, by decide +kernel⟩
  | .abs, _ => .inr ⟨_, cl_abs, by decide +kernel⟩
  | .int, _ => .inl ⟨_, cl_int, by decide +kernel⟩
  | .tuple, _ => .inl ⟨_, cl_tuple hk hc, by decide +kernel⟩
  | .list, _ => .inl ⟨_, cl_list hk hc, by decide +kernel⟩
  | .all, _ => .inr ⟨_, cl_all hk hc, by decide +kernel⟩
  | .any, _ => .inr ⟨_, cl_any hk hc, by decide +kernel⟩
  | .sum, _ => .inr ⟨_, cl_sum hk hc, by decide +kernel⟩
  | .max, _ => .inr ⟨_, cl_max hk hc, by decide +kernel⟩
  | .min, _ => .inr ⟨_, cl_min hk hc, by decide +kernel⟩
  | .str, _ => .inl ⟨_, cl_str, by decide +kernel⟩
  | .sorted, _ => .inr ⟨_, cl_sorted hk hu, by decide +kernel⟩
theorem bi_blt : ∀ b : BI, b.ok = true → b.nm ∈ bltN ∧ b.nm ≠ "__name__" ∧ (b.nm == ("__debug__" : Str)) = false
  | .len, _ => by decide +kernel
  | .abs, _ => by decide +kernel
  | .int, _ => by decide +kernel
  | .tuple, _ => by decide +kernel
  | .list, _ => by decide +kernel
  | .all, _ => by decide +kernel
  | .any, _ => by decide +kernel
  | .sum, _ => by decide +kernel
  | .max, _ => by decide +kernel
  | .min, _ => by decide +kernel
  | .str, _ => by decide +kernel
  | .sorted, _ => by decide +kernel
end
end Ev
end
section
set_option Elab.async false
set_option linter.all false
set_option maxRecDepth 100000
set_option maxHeartbeats 4000000
set_option autoImplicit false
/-! Ev, part O: what the checker passes is as the evaluator says: expressions, the theorem. -/
namespace Ev
open PySem PySem.Spec PyProof.Rows L2

theorem and2 {a b : Bool} (h : (a && b) = true) : a = true ∧ b = true := Bool.and_eq_true_iff.mp h
theorem okEs_plain {tb : Tb} {t : Ct} {c : Sc} : ∀ {es : Es} {xs : List Expr}, okEs tb t es c xs = true → xs.all plainA = true
  | .nil, xs, h => by
    unfold okEs at h
    cases xs with
    | nil => rfl
    | cons _ _ => cases h
  | .cons a r, xs, h => by
    unfold okEs at h
    cases xs with
    | nil => cases h
    | cons x xs =>
      obtain ⟨h1, h2⟩ := and2 h
      obtain ⟨h3, h4⟩ := and2 h1
      show (plainA x && xs.all plainA) = true
      rw [h3, okEs_plain h2]; rfl
theorem ownOf_map {c : Sc} {vs : List Nat} : (ownOf c vs).map (·.2) = vs := by
  unfold ownOf
  rw [List.map_map]
  exact List.map_id' vs
theorem all_mem {l vs : List Nat} (h : l.all vs.contains = true) : ∀ i ∈ l, i ∈ vs := fun i hi => by
  have := List.all_eq_true.mp h i hi
  simpa using this

section
variable {G : Gx}
mutual
theorem okT_ok : ∀ (g : T) {c : Sc} {X : Cx} {W : WX} {hi : Option Hi} {e : Expr}, Cok G c X W hi → okT c g e = true → PG X e (tgG X.K g)
  | .nm i, c, X, W, hi, e, ok, h => by
    unfold okT at h
    split at h
    · rename_i x p
      obtain ⟨h1, h2⟩ := and2 h
      have hN : X.N[i]? = some x := by rw [ok.N]; exact of_decide_eq_true h1
      split at h2
      · rename_i hl
        have hl' : X.env.scope.names.lookup x = some .local := by rw [ok.sc]; exact hl
        exact pg_name (by rw [ok.N]; exact ok.nd) hN (.inl hl') (.inr hl')
      · rename_i hl
        have hl' : X.env.scope.names.lookup x = some .cell := by rw [ok.sc]; exact hl
        exact pg_name (by rw [ok.N]; exact ok.nd) hN (.inr hl') (.inl (by rw [ok.fn]; exact h2))
      · cases h2
    · cases h
  | .tup ts, c, X, W, hi, e, ok, h => by
    unfold okT at h
    split at h
    · rename_i es k p
      obtain ⟨h1, h2⟩ := and2 h
      obtain ⟨h3, h4⟩ := and2 h1
      obtain ⟨q, hl⟩ := okTs_ok ts ok h4 h2
      exact pg_tup (ok.cm h3).1 q (by rw [ae_len h4, hl]) (ae_find h4)
    · cases h
theorem okTs_ok : ∀ (ts : Ts) {c : Sc} {X : Cx} {W : WX} {hi : Option Hi} {es : List Expr}, Cok G c X W hi → es.all plainA = true → okTs c ts es = true → PGs X es (tgGs X.K ts) ∧ es.length = lenTs ts
  | .nil, c, X, W, hi, es, ok, hp, h => by
    unfold okTs at h
    cases es with
    | nil => exact ⟨pgs_nil, rfl⟩
    | cons _ _ => cases h
  | .cons t r, c, X, W, hi, es, ok, hp, h => by
    unfold okTs at h
    cases es with
    | nil => cases h
    | cons e es =>
      obtain ⟨h1, h2⟩ := and2 h
      obtain ⟨p1, p2⟩ := and2 (show (plainA e && es.all plainA) = true from hp)
      obtain ⟨q, hl⟩ := okTs_ok r ok p2 h2
      exact ⟨pgs_cons (okT_ok t ok h1) q (by rw [ae_cons p1]; rfl), by show es.length + 1 = lenTs r + 1; rw [hl]⟩
end
variable (fns : ∀ f x, G.tb.fn[f]? = some x → ∃ fa, G.mg x = some (.ref fa) ∧ FnA G f fa)
include fns
mutual
theorem okE_ok : ∀ (a : E) {c : Sc} {X : Cx} {W : WX} {hi : Option Hi} {e : Expr}, Gk X.K G.F G.t G.tb G.mg → Cok G c X W hi → okE G.tb G.t a c e = true → OkE X G.F W hi e (evE G.t G.C (hi.map (·.x)) a)
  | .non, c, X, W, hi, e, gk, ok, h => by
    unfold okE at h
    split at h
    · exact .plain ok.hk (sE_c pe_non fun _ _ => rfl) rfl
    · cases h
  | .bl b, c, X, W, hi, e, gk, ok, h => by
    unfold okE at h
    split at h
    · have e := beq_iff_eq.mp h
      subst e
      exact .plain ok.hk (sE_c pe_bl fun _ _ => rfl) rfl
    · cases h
  | .int i, c, X, W, hi, e, gk, ok, h => by
    unfold okE at h
    split at h
    · have e := of_decide_eq_true h
      subst e
      exact .plain ok.hk (sE_c pe_int fun _ _ => rfl) rfl
    · cases h
  | .str cs, c, X, W, hi, e, gk, ok, h => by
    unfold okE at h
    split at h
    · have e := of_decide_eq_true h
      subst e
      exact .plain ok.hk (sE_c pe_str fun _ _ => rfl) rfl
    · cases h
  | .var i, c, X, W, hi, e, gk, ok, h => by
    unfold okE at h
    split at h
    · obtain ⟨v1, v2, v3, v4⟩ := ok.var h
      exact .plain ok.hk (sE_var v1 v2 v3 v4) rfl
    · cases h
  | .glb g, c, X, W, hi, e, gk, ok, h => by
    unfold okE at h
    split at h
    · obtain ⟨h1, h2⟩ := and2 h
      obtain ⟨h3, h4⟩ := and2 h1
      obtain ⟨v, u, q1, q2, q3⟩ := gk.glv g _ (of_decide_eq_true h3)
      exact .plain ok.hk (sE_c (pe_glob (ok.gl h4) (by rw [ok.mg]; exact q1) q2 (dbB_1 h2)) q3) rfl
    · cases h
  | .bin o a b, c, X, W, hi, e, gk, ok, h => by
    unfold okE at h
    split at h
    · obtain ⟨h1, h2⟩ := and2 h
      obtain ⟨h3, h4⟩ := and2 h1
      have e := of_decide_eq_true h3
      subst e
      exact .plain ok.hk (sE_op2 (pe_op (op_binS ok.hk o) (okE_ok a gk ok h4).pe (okE_ok b gk ok h2).pe)) rfl
    · cases h
  | .neg a, c, X, W, hi, e, gk, ok, h => by
    unfold okE at h
    split at h
    · exact .plain ok.hk (sE_neg (okE_ok a gk ok h).pe) rfl
    · cases h
  | .nt a, c, X, W, hi, e, gk, ok, h => by
    unfold okE at h
    split at h
    · obtain ⟨h1, h2⟩ := and2 h
      exact .nt (okE_ok a gk ok h2) h1
    · cases h
  | .and a b, c, X, W, hi, e, gk, ok, h => by
    unfold okE at h
    split at h
    · rename_i x y r p
      obtain ⟨h1, h2⟩ := and2 h
      obtain ⟨h3, h4⟩ := and2 h1
      cases r with
      | nil =>
        obtain ⟨h5, h6⟩ := and2 h2
        exact .and (okE_ok a gk ok h4) h3 (.one (okE_ok b gk ok h6) h5)
      | cons z r => exact .and (okE_ok a gk ok h4) h3 (okE_ok b gk ok h2)
    · cases h
  | .or a b, c, X, W, hi, e, gk, ok, h => by
    unfold okE at h
    split at h
    · rename_i x y r p
      obtain ⟨h1, h2⟩ := and2 h
      obtain ⟨h3, h4⟩ := and2 h1
      cases r with
      | nil =>
        obtain ⟨h5, h6⟩ := and2 h2
        exact .or (okE_ok a gk ok h4) h3 (.one (okE_ok b gk ok h6) h5)
      | cons z r => exact .or (okE_ok a gk ok h4) h3 (okE_ok b gk ok h2)
    · cases h
  | .cmp o a b, c, X, W, hi, e, gk, ok, h => by
    unfold okE at h
    split at h
    · obtain ⟨h1, h2⟩ := and2 h
      obtain ⟨h3, h4⟩ := and2 h1
      obtain ⟨h5, h6⟩ := and2 h3
      have e := of_decide_eq_true h5
      subst e
      exact .cmp ok.hk ok.un (okE_ok a gk ok h4) (okE_ok b gk ok h2) (by simpa using h6)
    · cases h
  | .chain o1 o2 a b d, c, X, W, hi, e, gk, ok, h => by
    unfold okE at h
    split at h
    · obtain ⟨h, h1⟩ := and2 h
      obtain ⟨h, h2⟩ := and2 h
      obtain ⟨h, h3⟩ := and2 h
      obtain ⟨h, h4⟩ := and2 h
      obtain ⟨h5, h6⟩ := and2 h
      have e1 := of_decide_eq_true h5
      have e2 := of_decide_eq_true h6
      subst e1 e2
      exact .chain ok.hk ok.un (okE_ok a gk ok h3) (okE_ok b gk ok h2) (okE_ok d gk ok h1) (by simpa using h4)
    · cases h
  | .ite k a b, c, X, W, hi, e, gk, ok, h => by
    unfold okE at h
    split at h
    · obtain ⟨h, h1⟩ := and2 h
      obtain ⟨h, h2⟩ := and2 h
      obtain ⟨h3, h4⟩ := and2 h
      exact .ite (okE_ok k gk ok h4) h3 (okE_ok a gk ok h2) (okE_ok b gk ok h1)
    · cases h
  | .tup es, c, X, W, hi, e, gk, ok, h => by
    unfold okE at h
    split at h
    · exact .plain ok.hk (sE_tup (okEs_ok es gk ok h)) rfl
    · cases h
  | .lst es, c, X, W, hi, e, gk, ok, h => by
    unfold okE at h
    split at h
    · exact .plain ok.hk (sE_lst (okEs_ok es gk ok h)) rfl
    · cases h
  | .emp k, c, X, W, hi, e, gk, ok, h => by
    unfold okE at h
    split at h
    · exact .plain ok.hk sE_emp rfl
    · cases h
  | .flst es, c, X, W, hi, e, gk, ok, h => by
    unfold okE at h
    split at h
    · exact .plain ok.hk (sE_flst (okEs_ok es gk ok h)) rfl
    · cases h
  | .femp k, c, X, W, hi, e, gk, ok, h => by
    unfold okE at h
    split at h
    · exact .plain ok.hk sE_femp rfl
    · cases h
  | .idx a i, c, X, W, hi, e, gk, ok, h => by
    unfold okE at h
    split at h
    · obtain ⟨h, h1⟩ := and2 h
      obtain ⟨h2, h3⟩ := and2 h
      exact .plain ok.hk (sE_idx ok.hk ok.un (okE_ok a gk ok h3).pe (okE_ok i gk ok h1).pe h2) rfl
    · cases h
  | .slc a lo hi', c, X, W, hi, e, gk, ok, h => by
    unfold okE at h
    split at h
    · obtain ⟨h, h1⟩ := and2 h
      obtain ⟨h2, h3⟩ := and2 h
      exact .plain ok.hk (sE_slc ok.hk (okE_ok a gk ok h2).pe (okO_ok lo gk ok h3) (okO_ok hi' gk ok h1)) rfl
    · cases h
  | .attr a f, c, X, W, hi, e, gk, ok, h => by
    unfold okE at h
    split at h
    · obtain ⟨h, h1⟩ := and2 h
      obtain ⟨h2, h3⟩ := and2 h
      exact .plain ok.hk (sE_attr ok.hk (okE_ok a gk ok h1).pe h3 (an_of gk.an (of_decide_eq_true h2)).1 (fun C hC => gk.fld C f hC)) rfl
    · cases h
  | .call f es, c, X, W, hi, e, gk, ok, h => by
    unfold okE at h
    split at h
    · rename_i x p y ys pos
      obtain ⟨h, h1⟩ := and2 h
      obtain ⟨h, h2⟩ := and2 h
      obtain ⟨h, h3⟩ := and2 h
      obtain ⟨h4, h5⟩ := and2 h
      obtain ⟨fa, m1, fnA⟩ := fns f x (of_decide_eq_true h3)
      obtain ⟨fd, ps, n, hb, F1, hl⟩ := fnA.ex
      have F2 : FnOk X.prog X.w X.K X.mg X.base (L2.CX X.prog X.w) (G.k + 3) fa fd ps (spD G.F n (G.C f)) := by
        rw [ok.prog, ok.w, ok.mg, ok.base, ok.K]; exact F1
      exact .plain ok.hk (sE_call F2 hl (ok.cm h4).2.1 (ok.gl h5) (by rw [ok.mg]; exact m1) (by rw [ok.K]; exact fnA.kp) (by rw [ok.K]; exact hb) ok.tk (okEs_ok es gk ok h1) (dbB_1 h2) (okEs_plain h1)) rfl
    · cases h
  | .make _ _, c, X, W, hi, e, gk, ok, h => by unfold okE at h; cases h
  | .bi b es, c, X, W, hi, e, gk, ok, h => by
    unfold okE at h
    split at h
    · rename_i x p y ys pos
      obtain ⟨h, h1⟩ := and2 h
      obtain ⟨h, h2⟩ := and2 h
      obtain ⟨h, h3⟩ := and2 h
      obtain ⟨h4, h5⟩ := and2 h
      have e := of_decide_eq_true h2
      subst e
      obtain ⟨n1, n2, n3⟩ := bi_blt b h4
      rcases bi_rule ok.hk (ok.cm h5).1 ok.un b h4 with ⟨T, r, hv⟩ | ⟨T, r, hv⟩
      · exact .plain ok.hk (sE_callT r (ok.gl h3) (ok.blt gk n1) hv (okEs_ok es gk ok h1) n2 n3 (okEs_plain h1)) rfl
      · exact .plain ok.hk (sE_callB r (ok.gl h3) (ok.blt gk n1) hv (okEs_ok es gk ok h1) n2 n3 (okEs_plain h1)) rfl
    · cases h
  | .meth m o es, c, X, W, hi, e, gk, ok, h => by
    unfold okE at h
    split at h
    · rename_i x nm ap ys cp
      obtain ⟨h, h1⟩ := and2 h
      obtain ⟨h, h2⟩ := and2 h
      obtain ⟨h, h3⟩ := and2 h
      obtain ⟨h, h4⟩ := and2 h
      obtain ⟨h, h5⟩ := and2 h
      obtain ⟨h6, h7⟩ := and2 h
      have ho := okE_ok o gk ok h4
      have hes := okEs_ok es gk ok h1
      cases ys with
      | nil =>
        cases es with
        | nil => exact .plain ok.hk (sE_meth0 ok.hk ok.un (of_decide_eq_true h7) (of_decide_eq_true h6) ho.pe h5 h3) rfl
        | cons a r => unfold okEs at h1; cases h1
      | cons y ys => exact .plain ok.hk (sE_meth ok.hk ok.un (of_decide_eq_true h7) (of_decide_eq_true h6) ho.pe hes h5 (okEs_plain h1) h2 h3) rfl
    · cases h
  | .omth _ _ _, c, X, W, hi, e, gk, ok, h => by unfold okE at h; cases h
  | .isi a ts, c, X, W, hi, e, gk, ok, h => by
    unfold okE at h
    split at h
    · rename_i x p y ce pos
      obtain ⟨h, h1⟩ := and2 h
      obtain ⟨h, h2⟩ := and2 h
      obtain ⟨h, h3⟩ := and2 h
      obtain ⟨h4, h5⟩ := and2 h
      have e := of_decide_eq_true h4
      subst e
      have hm : X.mg "isinstance" = none := ok.blt gk (by decide +kernel)
      have one : ∀ T, ts = [T] → clsB G.tb G.t.icl c T ce = true → OkE X G.F W hi (.Call (.Name "isinstance" p) [y, ce] [] pos) (evE G.t G.C (hi.map (·.x)) (.isi a ts)) := fun T eT hT => by
        subst eT
        obtain ⟨cv, u, q⟩ := ok.clsE gk hT
        exact .plain ok.hk (sE_isi ok.hk gk.icl (ok.gl h5) hm (okE_ok a gk ok h2).pe q h3) rfl
      cases ce with
      | Tuple ces k p2 =>
        obtain ⟨h1, h6⟩ := and2 h1
        obtain ⟨h7, h8⟩ := and2 h1
        obtain ⟨cvs, us, q, hl⟩ := ok.clsEs gk h6
        exact .plain ok.hk (sE_isiT ok.hk gk.icl (ok.gl h5) hm (okE_ok a gk ok h2).pe q h3 (of_decide_eq_true h7) (by
          have := of_decide_eq_true h8
          rw [hl, sizeLine_eq]; omega)) rfl
      | _ =>
        dsimp only at h1
        split at h1
        · exact one _ rfl h1
        · cases h1
    · cases h
  | .xf f, c, X, W, hi, e, gk, ok, h => by
    unfold okE at h
    split at h
    · split at h
      · rename_i i hv
        obtain ⟨h1, h2⟩ := and2 h
        obtain ⟨v1, v2, v3, v4⟩ := ok.var h1
        obtain ⟨q, hq, hqi⟩ := ok.hv i hv
        obtain ⟨X0, oe, pn, eX, hz, hfd⟩ := ok.hx q hq
        exact .plain ok.hk (sE_xf eX hz hfd hq hqi v1 v2 v3 v4 (an_of gk.an (of_decide_eq_true h2)).1 (fun k hk => gk.xfc k f hk)) rfl
      · cases h
    · cases h
  | .xis T, c, X, W, hi, e, gk, ok, h => by
    unfold okE at h
    split at h
    · split at h
      · rename_i i hv
        obtain ⟨h, h1⟩ := and2 h
        obtain ⟨h, h2⟩ := and2 h
        obtain ⟨h3, h4⟩ := and2 h
        have e := of_decide_eq_true h3
        subst e
        obtain ⟨v1, v2, v3, v4⟩ := ok.var h2
        obtain ⟨q, hq, hqi⟩ := ok.hv i hv
        obtain ⟨X0, oe, pn, eX, hz, hfd⟩ := ok.hx q hq
        obtain ⟨hpc, hc | ⟨cv, u, c1, c2, c3⟩⟩ := ok.xcls gk h1
        · refine .plain ok.hk (PE.bad fun ρ S => ?_) rfl
          subst hq
          show (match xisB G.t q.x T with
            | some b => if q.x.fs = [] then R.ok (D.bl b) S else R.bad
            | none => R.bad) = R.bad
          cases hb : xisB G.t q.x T with
          | none => rfl
          | some b => exact (hc _ _ hb).elim
        · exact .plain ok.hk (sE_xis eX hz hfd hq hqi v1 v2 v3 v4 (ok.gl h4) (ok.blt gk (by decide +kernel)) c1 c2 hpc c3) rfl
      · cases h
    · cases h
  | .lc elt tg it cd vs, c, X, W, hi, e, gk, ok, h => by
    unfold okE at h
    split at h
    · rename_i x g iter ifs s p
      obtain ⟨h, h1⟩ := and2 h
      obtain ⟨h, h2⟩ := and2 h
      obtain ⟨h, h3⟩ := and2 h
      obtain ⟨h, h4⟩ := and2 h
      obtain ⟨h, h5⟩ := and2 h
      obtain ⟨h, h6⟩ := and2 h
      obtain ⟨h7, h8⟩ := and2 h
      obtain ⟨cal, _, hn⟩ := ok.cm h7
      subst hn
      have hbl : BlkOk X.N X.env.scope s (ownOf c vs) := by rw [ok.N, ok.sc]; exact blkOk_by h6
      have hN : X.N.Nodup := by rw [ok.N]; exact ok.nd
      have key := pe_lc (pos := p) (g := tgG X.K tg) cal hN (okI_ok it gk ok h4) hbl
        (fun sh H C cl fp => okT_ok tg (ok.blk h7 sh H s cl C fp) h3)
        (fun sh H C cl fp => okC_ok cd (X := X.blk sh H s (compEnvC s cl C X.env) fp) gk (ok.blk h7 sh H s cl C fp) h2)
        (fun sh H C cl fp => (okE_ok elt (X := X.blk sh H s (compEnvC s cl C X.env) fp) gk (ok.blk h7 sh H s cl C fp) h1).pe) (fun _ => notSet_is h8 _)
      refine .plain ok.hk (PE.imp key fun σ H Q q => ?_) rfl
      rw [ownOf_map, ← ok.hk]
      exact lc_reads (all_mem h5) q
    · cases h
  | .lc2 elt tg it tg1 it1 vs vs1, c, X, W, hi, e, gk, ok, h => by
    unfold okE at h
    split at h
    · rename_i x g iter g1 iter1 s p
      obtain ⟨h, h1⟩ := and2 h
      obtain ⟨h, h2⟩ := and2 h
      obtain ⟨h, h3⟩ := and2 h
      obtain ⟨h, h4⟩ := and2 h
      obtain ⟨h, h5⟩ := and2 h
      obtain ⟨h, h6⟩ := and2 h
      obtain ⟨h, h7⟩ := and2 h
      obtain ⟨h, h8⟩ := and2 h
      obtain ⟨h, h9⟩ := and2 h
      obtain ⟨h, h10⟩ := and2 h
      obtain ⟨h11, h12⟩ := and2 h
      obtain ⟨cal, _, hn⟩ := ok.cm h11
      subst hn
      have hbl : BlkOk X.N X.env.scope s (ownOf c vs) := by rw [ok.N, ok.sc]; exact blkOk_by h9
      have hN : X.N.Nodup := by rw [ok.N]; exact ok.nd
      have key := pe_lc2 (pos := p) (vs1 := vs1) (g := tgG X.K tg) (g1 := tgG X.K tg1) (tt1 := tT G.F W0 none fun _ S => .ok true S) cal hN (okI_ok it gk ok h5) hbl (by rw [ownOf_map]; exact all_mem h6)
        (fun sh H C cl fp => okT_ok tg (ok.blk h11 sh H s cl C fp) h4) (fun sh H C cl fp => pts_nil)
        (fun sh H C cl fp => okI_ok it1 (X := X.blk sh H s (compEnvC s cl C X.env) fp) gk (ok.blk h11 sh H s cl C fp) h3)
        (fun sh H C cl fp => okT_ok tg1 (ok.blk h11 sh H s cl C fp) h2)
        (fun sh H C cl fp => ⟨fun pins s σ H Q I ⟨ρ, μ, S, e, rel, q⟩ => pts_nil.run pins s σ H Q I (Sat.here (σ := σ) (W := W0) (P := fun b _ _ H' => Q b H') (F := G.F) (a := true) q rel)⟩)
        (fun sh H C cl fp => (okE_ok elt (X := X.blk sh H s (compEnvC s cl C X.env) fp) gk (ok.blk h11 sh H s cl C fp) h1).pe) (fun _ => notSet_is h12 _) (fun _ _ => notSet_is h10 _)
      refine .plain ok.hk (PE.imp key fun σ H Q q => ?_) rfl
      rw [ownOf_map, ← ok.hk]
      exact lc2_reads (all_mem h8) (all_mem h7) q
    · cases h
  | .frz a, c, X, W, hi, e, gk, ok, h => by
    unfold okE at h
    obtain ⟨h1, h2⟩ := and2 h
    exact .plain ok.hk (sE_frz (okE_ok a gk ok h2).pe) h1
theorem okEs_ok : ∀ (es : Es) {c : Sc} {X : Cx} {W : WX} {hi : Option Hi} {xs : List Expr}, Gk X.K G.F G.t G.tb G.mg → Cok G c X W hi → okEs G.tb G.t es c xs = true → PA X xs (tA G.F W hi (evEs G.t G.C (hi.map (·.x)) es))
  | .nil, c, X, W, hi, xs, gk, ok, h => by
    unfold okEs at h
    cases xs with
    | nil => exact sA_nil
    | cons _ _ => cases h
  | .cons a r, c, X, W, hi, xs, gk, ok, h => by
    unfold okEs at h
    cases xs with
    | nil => cases h
    | cons x xs =>
      obtain ⟨h, h1⟩ := and2 h
      obtain ⟨h2, h3⟩ := and2 h
      exact sA_cons (okE_ok a gk ok h3).pe (okEs_ok r gk ok h1) h2
theorem okO_ok : ∀ (o : OE) {c : Sc} {X : Cx} {W : WX} {hi : Option Hi} {x : Option Expr}, Gk X.K G.F G.t G.tb G.mg → Cok G c X W hi → okO G.tb G.t o c x = true → PO X x (tO G.F W hi (evO G.t G.C (hi.map (·.x)) o))
  | .no, c, X, W, hi, x, gk, ok, h => by
    unfold okO at h
    split at h
    · exact sO_no
    · cases h
  | .yes a, c, X, W, hi, x, gk, ok, h => by
    unfold okO at h
    split at h
    · exact sO_yes (okE_ok a gk ok h).pe
    · cases h
theorem okC_ok : ∀ (o : OE) {c : Sc} {X : Cx} {W : WX} {hi : Option Hi} {xs : List Expr}, Gk X.K G.F G.t G.tb G.mg → Cok G c X W hi → okC G.tb G.t o c xs = true → PTs X xs (tT G.F W hi (evC G.t G.C (hi.map (·.x)) o))
  | .no, c, X, W, hi, xs, gk, ok, h => by
    unfold okC at h
    cases xs with
    | nil => exact ⟨fun pins s σ H Q I ⟨ρ, μ, S, e, rel, q⟩ => pts_nil.run pins s σ H Q I (Sat.here (σ := σ) (W := W) (P := fun b _ _ H' => Q b H') (F := G.F) (a := true) q rel)⟩
    | cons _ _ => cases h
  | .yes a, c, X, W, hi, xs, gk, ok, h => by
    unfold okC at h
    split at h
    · obtain ⟨h1, h2⟩ := and2 h
      exact pts_one ((okE_ok a gk ok h2).pt h1)
    · cases h
theorem okI_ok : ∀ (i : I) {c : Sc} {X : Cx} {W : WX} {hi : Option Hi} {g e : Expr}, Gk X.K G.F G.t G.tb G.mg → Cok G c X W hi → okI G.tb G.t i c g e = true → PI X g e (tI G.F W hi (evI G.t G.C (hi.map (·.x)) i))
  | .of a, c, X, W, hi, g, e, gk, ok, h => by
    unfold okI at h
    exact sI_of ok.hk (okE_ok a gk ok h).pe
  | .rng a, c, X, W, hi, g, e, gk, ok, h => by
    unfold okI at h
    split at h
    · obtain ⟨h, h1⟩ := and2 h
      obtain ⟨h, h2⟩ := and2 h
      obtain ⟨h3, h4⟩ := and2 h
      have e := of_decide_eq_true h3
      subst e
      exact sI_rng (ok.gl h4) (ok.blt gk (by decide +kernel)) (okE_ok a gk ok h1).pe h2
    · cases h
  | .rng2 a b, c, X, W, hi, g, e, gk, ok, h => by
    unfold okI at h
    split at h
    · obtain ⟨h, h1⟩ := and2 h
      obtain ⟨h, h2⟩ := and2 h
      obtain ⟨h, h3⟩ := and2 h
      obtain ⟨h, h4⟩ := and2 h
      obtain ⟨h5, h6⟩ := and2 h
      have e := of_decide_eq_true h5
      subst e
      exact sI_rng2 (ok.gl h6) (ok.blt gk (by decide +kernel)) (okE_ok a gk ok h2).pe (okE_ok b gk ok h1).pe h4 h3
    · cases h
  | .zip a b, c, X, W, hi, g, e, gk, ok, h => by
    unfold okI at h
    split at h
    · obtain ⟨h, h1⟩ := and2 h
      obtain ⟨h, h2⟩ := and2 h
      obtain ⟨h, h3⟩ := and2 h
      obtain ⟨h, h4⟩ := and2 h
      obtain ⟨h5, h6⟩ := and2 h
      have e := of_decide_eq_true h5
      subst e
      exact sI_zip ok.hk (ok.gl h6) (ok.blt gk (by decide +kernel)) (okE_ok a gk ok h2).pe (okE_ok b gk ok h1).pe h4 h3
    · cases h
  | .enm a, c, X, W, hi, g, e, gk, ok, h => by
    unfold okI at h
    split at h
    · obtain ⟨h, h1⟩ := and2 h
      obtain ⟨h, h2⟩ := and2 h
      obtain ⟨h3, h4⟩ := and2 h
      have e := of_decide_eq_true h3
      subst e
      exact sI_enm ok.hk (ok.gl h4) (ok.blt gk (by decide +kernel)) (okE_ok a gk ok h1).pe h2
    · cases h
end
end
end Ev
end
section
set_option Elab.async false
set_option linter.all false
set_option maxRecDepth 100000
set_option maxHeartbeats 4000000
set_option autoImplicit false
/-! Ev, part P: what the checker passes is as the evaluator says: statements. -/
namespace Ev
open PySem PySem.Spec PyProof.Rows L2

def Sc.suite (c : Sc) (n : Option Nat) : Sc := { c with cm := false, hv := n }
def swN (tg : Expr) (l : Nat) : Bool := match tg with
  | .Name _ p => p.line != l
  | _ => true
/-- no comprehension that is stored as it ends -/
def swB (tg e : Expr) : Bool := !isLC e || swN tg e.pos.line
theorem swN_is {tg e : Expr} {l : Nat} {env : Env} (h : swN tg e.pos.line = true) : swapsWith e (some tg) l env = pure false := by
  unfold swapsWith
  split
  · rename_i o s hs
    cases tg with
    | Name x p =>
      have h3 : (p.line == e.pos.line) = false := by
        have h4 : (p.line != e.pos.line) = true := h
        rw [bne] at h4
        simpa using h4
      dsimp only
      rw [h3]
      simp
    | _ => rfl
  · rfl
theorem swB_is {tg e : Expr} {l : Nat} {env : Env} (h : swB tg e = true) : swapsWithSole [tg] e l env = pure false := by
  show swapsWith e (some tg) l env = pure false
  unfold swB at h
  cases hl : isLC e with
  | false => exact sw_plain hl
  | true => rw [hl] at h; exact swN_is h
def isStar : Expr → Bool
  | .Starred .. => true
  | _ => false
theorem star_no {e : Expr} (h : plainA e = true) : isStar e = false := by
  cases e <;> first | rfl | exact (Bool.false_ne_true h).elim
theorem any_star {a b : Expr} (ha : isStar a = false) (hb : isStar b = false) : ([a, b].any fun | .Starred .. => true | _ => false) = false := by
  show (isStar a || (isStar b || false)) = false
  rw [ha, hb]; rfl
theorem two_names {env : Env} {x y : Str} {px py : Pos} (kx : env.kindOf x = some .local) (ky : env.kindOf y = some .local) (h : (py.line == px.line) = true) : ([Expr.Name x px, Expr.Name y py].filterMap fun
    | .Name id pos => if env.kindOf id == some .local && pos.line == px.line then some id else none
    | _ => none) = [x, y] := by
  have h' : py.line = px.line := by simpa using h
  rw [List.filterMap_cons_some (b := x) (by simp [kx]), List.filterMap_cons_some (b := y) (by simp [ky, h'])]
  rfl
/-- .. that is -/
def swL (c : Sc) (y : Str) (py p : Pos) (s : Scope) : Bool := (match c.sc.kind with
  | .function => true
  | _ => false) && decide (c.sc.names.lookup y = some .local) && (py.line == p.line) && !(s.names.any fun (n, k) => n == y && (k == .local || k == .cell))
theorem swL_is {c : Sc} {y : Str} {py p : Pos} {s : Scope} {env : Env} {x : Expr} {gs : List Comprehension} {l : Nat} (hsc : env.scope = c.sc) (h : swL c y py p s = true) :
    swapsWith (.ListComp x gs s p) (some (.Name y py)) l env = pure true ∧ c.sc.names.lookup y = some .local := by
  obtain ⟨h, h1⟩ := and2 h
  obtain ⟨h, h2⟩ := and2 h
  obtain ⟨h3, h4⟩ := and2 h
  have h4' := of_decide_eq_true h4
  refine ⟨?_, h4'⟩
  have hk : env.blockKind = .function := by
    unfold Env.blockKind
    rw [hsc]
    split at h3
    · rename_i e; rw [e]; rfl
    · cases h3
  unfold swapsWith
  show (pure (env.blockKind == .function && env.kindOf y == some .local && py.line == (Expr.ListComp x gs s p).pos.line && !(s.names.any fun (n, k) => n == y && (k == .local || k == .cell))) : Sem Bool) = _
  have hko : env.kindOf y = some .local := by unfold Env.kindOf; rw [hsc]; exact h4'
  rw [hk, hko, show (Expr.ListComp x gs s p).pos.line = p.line from rfl, h2, h1]
  rfl
/-- two names, two values: stored from the right -/
def parB (c : Sc) (x y : Str) (px py : Pos) (a b : Expr) : Bool := (match c.sc.kind with
  | .function => true
  | _ => false) && decide (c.sc.names.lookup x = some .local) && decide (c.sc.names.lookup y = some .local) && (py.line == px.line) && decide (x ≠ y) && plainA a && plainA b && !([a, b].all (foldedForSure 8)) && !([a, b].all (constantsAlone 8))
theorem parB_is {c : Sc} {x y : Str} {px py pt : Pos} {a b : Expr} {kt k2 : Nat} {pt2 : Pos} {env : Env} (hsc : env.scope = c.sc) (h : parB c x y px py a b = true) :
    swappedStores [.Tuple [.Name x px, .Name y py] kt pt] (.Tuple [a, b] k2 pt2) env = pure (some [x, y]) ∧ c.sc.names.lookup x = some .local ∧ c.sc.names.lookup y = some .local ∧ plainA a = true ∧ plainA b = true := by
  obtain ⟨h, h1⟩ := and2 h
  obtain ⟨h, h2⟩ := and2 h
  obtain ⟨h, h3⟩ := and2 h
  obtain ⟨h, h4⟩ := and2 h
  obtain ⟨h, h5⟩ := and2 h
  obtain ⟨h, h6⟩ := and2 h
  obtain ⟨h, h7⟩ := and2 h
  obtain ⟨h8, h9⟩ := and2 h
  have h7' := of_decide_eq_true h7
  have h9' := of_decide_eq_true h9
  refine ⟨?_, h9', h7', h4, h3⟩
  have hk : env.blockKind = .function := by
    unfold Env.blockKind
    rw [hsc]
    split at h8
    · rename_i e; rw [e]; rfl
    · cases h8
  have kx : env.kindOf x = some .local := by unfold Env.kindOf; rw [hsc]; exact h9'
  have ky : env.kindOf y = some .local := by unfold Env.kindOf; rw [hsc]; exact h7'
  have hne : x ≠ y := of_decide_eq_true h5
  have hf : ([a, b].all (foldedForSure 8)) = false := by
    cases hq : [a, b].all (foldedForSure 8) with
    | false => rfl
    | true => rw [hq] at h2; cases h2
  have hc : ([a, b].all (constantsAlone 8)) = false := by
    cases hq : [a, b].all (constantsAlone 8) with
    | false => rfl
    | true => rw [hq] at h1; cases h1
  have hed : ([x, y] : List Str).eraseDups.length = 2 := by
    have : (y == x) = false := beq_eq_false_iff_ne.mpr (Ne.symm hne)
    simp [List.eraseDups, List.eraseDupsBy, List.eraseDupsBy.loop, this]
  have hsa := any_star (star_no h4) (star_no h3)
  have hnm := two_names kx ky h6
  unfold swappedStores
  refine (if_neg ?_).trans ?_
  · rw [hk]; exact Bool.false_ne_true
  refine (if_neg fun z => Bool.false_ne_true (hsa.symm.trans z)).trans ?_
  have e1 : ∀ (names : List Str), names = [x, y] → (if (names.length != 2 || names.eraseDups.length != names.length) = true then (pure none : Sem (Option (List Str)))
      else if ([a, b].all (foldedForSure 8)) = true then pure none
      else if ([a, b].all (constantsAlone 8)) = true then do unsupported "assign.tuple-of-constant-expressions:order-of-the-stores"; pure (some names) else pure (some names)) = pure (some [x, y]) := by
    intro names e
    subst e
    rw [if_neg (by rw [hed]; exact Bool.false_ne_true), hf, hc]
    rfl
  exact e1 _ hnm
section
variable (tb : Tb) (t : Ct)
mutual
def okS : S → Sc → Stmt → Bool
  | .pass, c, s => (match s with
    | .Pass _ => true
    | _ => false)
  | .doc, c, s => (match s with
    | .Expr (.Constant (.str _) _ _) _ => true
    | _ => false)
  | .ret e, c, s => (match s with
    | .Return (some x) _ => okE tb t e c x
    | _ => false)
  | .retN, c, s => (match s with
    | .Return none _ => true
    | _ => false)
  | .exp e, c, s => (match s with
    | .Expr x _ => !isLC x && okE tb t e c x
    | _ => false)
  | .asg g e, c, s => (match s with
    | .Assign [tg] x _ => swB tg x && !(isTp tg && isTp x) && !isLs tg && plainA tg && (match c.hv with
      | some i => !(tSl g).contains i
      | none => true) && okT c g tg && okE tb t e c x
    | _ => false)
  | .asgL z i elt tg it cd vs, c, s => (match s with
    | .Assign [.Name y py] (.ListComp x [⟨g, iter, ifs, 0⟩] sc p) _ => decide (c.N[i]? = some y) && swL c y py p sc && okE tb t (.lc elt tg it cd vs) c (.ListComp x [⟨g, iter, ifs, 0⟩] sc p)
    | _ => false)
  | .asgL2 z i elt tg it tg1 it1 vs vs1, c, s => (match s with
    | .Assign [.Name y py] (.ListComp x [⟨g, iter, [], 0⟩, ⟨g1, iter1, [], 0⟩] sc p) _ => decide (c.N[i]? = some y) && swL c y py p sc && okE tb t (.lc2 elt tg it tg1 it1 vs vs1) c (.ListComp x [⟨g, iter, [], 0⟩, ⟨g1, iter1, [], 0⟩] sc p)
    | _ => false)
  | .par i j a b, c, s => (match s with
    | .Assign [.Tuple [.Name x px, .Name y py] _ _] (.Tuple [e1, e2] _ _) _ => c.cm && decide (c.N[i]? = some x) && decide (c.N[j]? = some y) && decide (i ≠ j) && parB c x y px py e1 e2 && okE tb t a c e1 && okE tb t b c e2
    | _ => false)
  | .asgI o i e, c, s => (match s with
    | .Assign [.Subscript x y _] v _ => plainI y && okE tb t e c v && okE tb t o c x && okE tb t i c y
    | _ => false)
  | .asgF o f e, c, s => (match s with
    | .Assign [.Attribute x fn _] v _ => decide (tb.an[f]? = some fn) && !isLC v && okE tb t e c v && okE tb t o c x
    | _ => false)
  | .aug i op e, c, s => (match s with
    | .AugAssign (.Name x _) op' v _ => decide (op = op') && (decide (op = .Add) || decide (op = .Sub)) && decide (c.hv = none) && okT c (.nm i) (.Name x ⟨0, 0, 0, 0⟩) && okE tb t e c v
    | _ => false)
  | .ife k a b, c, s => (match s with
    | .If x xs ys _ => tsB x && okE tb t k c x && okSs a c xs && okSs b c ys
    | _ => false)
  | .wh k b, c, s => (match s with
    | .While x xs [] _ => c.cm && tsB x && okE tb t k c x && okSs b c xs
    | _ => false)
  | .fr g it b, c, s => (match s with
    | .For tg iter xs [] _ => c.cm && notSet iter && okI tb t it c tg iter && okT c g tg && okSs b c xs
    | _ => false)
  | .rse k es, c, s => (match s with
    | .Raise (some (.Call (.Name x _) ys [] _)) none _ => c.cm && decide (tb.cl[k]? = some x) && glB c.sc x && dbB x && t.exc k && (match es, ys with
      | .nil, [] => (t.xfs k).isEmpty
      | .cons a .nil, [y] => decide ((t.xfs k).length = 1) && plainA y && okE tb t a c y
      | _, _ => false)
    | _ => false)
  | .tri b hs, c, s => (match s with
    | .Try xs (h :: hds) [] [] _ => c.cm && okSs b c xs && okHs hs c (h :: hds)
    | _ => false)
def okSs : Ss → Sc → List Stmt → Bool
  | .nil, c, xs => xs.isEmpty
  | .cons s r, c, xs => (match xs with
    | x :: xs => okS s c x && okSs r c xs
    | [] => false)
def okHs : Hs → Sc → List ExceptHandler → Bool
  | .nil, c, hs => hs.isEmpty
  | .cons T n b r, c, hs => (match hs with
    | .ExceptHandler (some (.Name x p)) nm (b0 :: su) _ :: hs => clsB tb t.exc c T (.Name x p) && (match T with
      | .own _ => true
      | .value => true
      | _ => false) && (match n, nm with
      | none, none => true
      | some i, some y => decide (c.N[i]? = some y) && decide (c.sc.names.lookup y = some .local)
      | _, _ => false) && okSs b (c.suite n) (b0 :: su) && okHs r c hs
    | _ => false)
end
end
end Ev
end
section
set_option Elab.async false
set_option linter.all false
set_option maxRecDepth 100000
set_option maxHeartbeats 4000000
set_option autoImplicit false
/-! Ev, part Q: what the checker passes is as the evaluator says: statements, the theorem. -/
namespace Ev
open PySem PySem.Spec PyProof.Rows L2

structure CokS (G : Gx) (c : Sc) (X : Cx) (W : WX) (hi : Option Hi) : Prop where
  e : Cok G c X W hi
  po : c.cm = true → PassesOwn (model X.prog X.w) X.A X.env X.xe
  top : c.cm = true → X.stack = X.env :: X.outer ∧ X.env.frame = some X.env.locals
/-- the classes that are raised -/
structure Rz (G : Gx) : Prop where
  r0 : ∀ c, G.t.exc c = true → G.t.xfs c = [] → ∃ (B nid iid : String) (bmB : List Value), ExcBaseFacts B nid iid bmB ∧ PySem.W.excIn G.F.K (G.F.ca c) bmB nid = true ∧ PySem.W.keepIn G.F.K (.ref (G.F.ca c)) = true ∧
    PySem.W.subIn G.F.K (.ref (G.F.ca c)) (.type "BaseException") = some true ∧ PySem.W.typeIn G.F.K (.ref (G.F.ca c)) = some (.type "type")
  r1 : ∀ c f, G.t.exc c = true → G.t.xfs c = [f] → OexC G.F.K (G.F.ca c) ∧ ∃ (fI : Addr) (fd : FuncData) (sn pn : Str), PySem.W.findIn G.F.K (.ref (G.F.ca c)) "__init__" = some (some (.ref fI)) ∧ PySem.W.typeIn G.F.K (.ref fI) = some (.type "function") ∧
    FnOk G.P G.w G.F.K G.mg G.base (L2.CX G.P G.w) 1 fI fd [sn, pn] (spI1 G.F.K (G.F.nm f)) ∧ Binds G.F.K fd [sn, pn] [] ∧ PySem.W.findIn G.F.K (.ref (G.F.ca c)) (G.F.nm f) = some none ∧ f < G.F.an.length

section
variable {G : Gx}
theorem CokS.tr {c : Sc} {X : Cx} {W : WX} (ok : CokS G c X W none) {W' : WX} {pn : List (Addr × Obj)} {xe : Value → Shared → Prop} (tk : Takes (X.tr pn xe) W') (po : PassesOwn (model X.prog X.w) X.A X.env xe) : CokS G c (X.tr pn xe) W' none where
  e := ⟨ok.e.prog, ok.e.w, ok.e.K, ok.e.mg, ok.e.base, ok.e.N, ok.e.nd, ok.e.sc, ok.e.fn, ok.e.un, tk, fun h => ok.e.cm h, ok.e.hv1, ok.e.hv2, fun h e => by cases e⟩
  po := fun _ => po
  top := fun h => ok.top h
theorem CokS.suite {c : Sc} {X : Cx} {W : WX} (ok : CokS G c X W none) {a : Addr} {oe : Obj} {cls : Value} {d : Option Addr} {pn : List (Addr × Obj)} {x : Exn} {n : Option Nat} (hz : Zc cls d oe) (hf : ∃ vs, oe.data = .fields vs) :
    CokS G (c.suite n) (X.suite a ((a, oe) :: pn)) W0 (some ⟨a, cls, d, x, n⟩) where
  e := ⟨ok.e.prog, ok.e.w, ok.e.K, ok.e.mg, ok.e.base, ok.e.N, ok.e.nd, ok.e.sc, ok.e.fn, ok.e.un, takes0, fun h => (Bool.false_ne_true h).elim, fun h => (by cases h), fun h e => (by cases e; rfl), fun h e => by cases e; exact ⟨X, oe, pn, rfl, hz, hf⟩⟩
  po := fun h => nomatch h
  top := fun h => nomatch h
theorem not_t {b : Bool} (h : (!b) = true) : b = false := by cases b <;> first | rfl | cases h
theorem hv_no {c : Sc} {X : Cx} {W : WX} {hi : Option Hi} (ok : Cok G c X W hi) {t : T} (h : (match c.hv with
      | some i => !(tSl t).contains i
      | none => true) = true) : ∀ q, hi = some q → ∀ i, q.i = some i → i ∉ tSl t := fun q hq i hqi m => by
  have e := (ok.hv2 q hq).symm.trans hqi
  rw [e] at h
  have h' : (!(tSl t).contains i) = true := h
  have : (tSl t).contains i = true := by simpa using m
  rw [this] at h'; cases h'
variable (fns : ∀ f x, G.tb.fn[f]? = some x → ∃ fa, G.mg x = some (.ref fa) ∧ FnA G f fa) (rz : Rz G)
include fns rz
mutual
theorem okS_ok : ∀ (s : S) {c : Sc} {X : Cx} {W : WX} {hi : Option Hi} {st : Stmt}, Gk X.K G.F G.t G.tb G.mg → CokS G c X W hi → okS G.tb G.t s c st = true → PS X st (tS G.F W hi (evS G.t G.C s (hi.map (·.x))))
  | .pass, c, X, W, hi, st, gk, ok, h => by
    unfold okS at h
    split at h
    · exact sS_next ps_pass
    · cases h
  | .doc, c, X, W, hi, st, gk, ok, h => by
    unfold okS at h
    split at h
    · exact sS_next ps_doc
    · cases h
  | .ret e, c, X, W, hi, st, gk, ok, h => by
    unfold okS at h
    split at h
    · exact sS_ret (okE_ok fns e gk ok.e h).pe
    · cases h
  | .retN, c, X, W, hi, st, gk, ok, h => by
    unfold okS at h
    split at h
    · exact sS_retN
    · cases h
  | .exp e, c, X, W, hi, st, gk, ok, h => by
    unfold okS at h
    split at h
    · obtain ⟨h1, h2⟩ := and2 h
      exact sS_exp (okE_ok fns e gk ok.e h2).pe (by simpa using h1)
    · cases h
  | .asg g e, c, X, W, hi, st, gk, ok, h => by
    unfold okS at h
    split at h
    · obtain ⟨h, h1⟩ := and2 h
      obtain ⟨h, h2⟩ := and2 h
      obtain ⟨h, h3⟩ := and2 h
      obtain ⟨h, h4⟩ := and2 h
      obtain ⟨h, h5⟩ := and2 h
      obtain ⟨h6, h7⟩ := and2 h
      exact sS_asg ok.e.hk (okE_ok fns e gk ok.e h1).pe (okT_ok g ok.e h2) (swB_is h6) (not_t h7) (by simpa using h5) h4 (hv_no ok.e h3)
    · cases h
  | .asgL z i elt tg it cd vs, c, X, W, hi, st, gk, ok, h => by
    unfold okS at h
    split at h
    · rename_i y py x g iter ifs sc p pos
      obtain ⟨h, h0⟩ := and2 h
      obtain ⟨n1, n2⟩ := and2 h
      unfold okE at h0
      obtain ⟨h, h1⟩ := and2 h0
      obtain ⟨h, h2⟩ := and2 h
      obtain ⟨h, h3⟩ := and2 h
      obtain ⟨h, h4⟩ := and2 h
      obtain ⟨h, h5⟩ := and2 h
      obtain ⟨h, h6⟩ := and2 h
      obtain ⟨h7, h8⟩ := and2 h
      obtain ⟨cal, _, hn⟩ := ok.e.cm h7
      subst hn
      obtain ⟨sw, hl⟩ := swL_is (l := pos.line) (x := x) (gs := [⟨g, iter, ifs, 0⟩]) ok.e.sc n2
      have hbl : BlkOk X.N X.env.scope sc (ownOf c vs) := by rw [ok.e.N, ok.e.sc]; exact blkOk_by h6
      have hN : X.N.Nodup := by rw [ok.e.N]; exact ok.e.nd
      have key := ps_setLc (g := tgG X.K tg) cal hN (by rw [ok.e.N]; exact of_decide_eq_true n1) (by rw [ok.e.sc]; exact hl) sw (okI_ok fns it gk ok.e h4) hbl
        (fun sh H C cl fp => okT_ok tg (ok.e.blk h7 sh H sc cl C fp) h3)
        (fun sh H C cl fp => okC_ok fns cd (X := X.blk sh H sc (compEnvC sc cl C X.env) fp) gk (ok.e.blk h7 sh H sc cl C fp) h2)
        (fun sh H C cl fp => (okE_ok fns elt (X := X.blk sh H sc (compEnvC sc cl C X.env) fp) gk (ok.e.blk h7 sh H sc cl C fp) h1).pe) (fun _ => notSet_is h8 _)
      exact sS_asgLc (z := z) (f := evE G.t G.C none (.lc elt tg it cd vs)) key (fun σ H Q q => by rw [ownOf_map, ← ok.e.hk]; exact lc_reads (all_mem h5) q) fun q hq => nomatch hq
    · cases h
  | .asgL2 z i elt tg it tg1 it1 vs vs1, c, X, W, hi, st, gk, ok, h => by
    unfold okS at h
    split at h
    · rename_i y py x g iter g1 iter1 sc p pos
      obtain ⟨h, h0⟩ := and2 h
      obtain ⟨n1, n2⟩ := and2 h
      unfold okE at h0
      obtain ⟨h, h1⟩ := and2 h0
      obtain ⟨h, h2⟩ := and2 h
      obtain ⟨h, h3⟩ := and2 h
      obtain ⟨h, h4⟩ := and2 h
      obtain ⟨h, h5⟩ := and2 h
      obtain ⟨h, h6⟩ := and2 h
      obtain ⟨h, h7⟩ := and2 h
      obtain ⟨h, h8⟩ := and2 h
      obtain ⟨h, h9⟩ := and2 h
      obtain ⟨h, h10⟩ := and2 h
      obtain ⟨h11, h12⟩ := and2 h
      obtain ⟨cal, _, hn⟩ := ok.e.cm h11
      subst hn
      obtain ⟨sw, hl⟩ := swL_is (l := pos.line) (x := x) (gs := [⟨g, iter, [], 0⟩, ⟨g1, iter1, [], 0⟩]) ok.e.sc n2
      have hbl : BlkOk X.N X.env.scope sc (ownOf c vs) := by rw [ok.e.N, ok.e.sc]; exact blkOk_by h9
      have hN : X.N.Nodup := by rw [ok.e.N]; exact ok.e.nd
      have key := ps_setLc2 (vs1 := vs1) (g := tgG X.K tg) (g1 := tgG X.K tg1) (tt1 := tT G.F W0 none fun _ S => .ok true S) cal hN (by rw [ok.e.N]; exact of_decide_eq_true n1) (by rw [ok.e.sc]; exact hl) sw (okI_ok fns it gk ok.e h5) hbl (by rw [ownOf_map]; exact all_mem h6)
        (fun sh H C cl fp => okT_ok tg (ok.e.blk h11 sh H sc cl C fp) h4) (fun sh H C cl fp => pts_nil)
        (fun sh H C cl fp => okI_ok fns it1 (X := X.blk sh H sc (compEnvC sc cl C X.env) fp) gk (ok.e.blk h11 sh H sc cl C fp) h3)
        (fun sh H C cl fp => okT_ok tg1 (ok.e.blk h11 sh H sc cl C fp) h2)
        (fun sh H C cl fp => ⟨fun pins s σ H Q I ⟨ρ, μ, S, e, rel, q⟩ => pts_nil.run pins s σ H Q I (Sat.here (σ := σ) (W := W0) (P := fun b _ _ H' => Q b H') (F := G.F) (a := true) q rel)⟩)
        (fun sh H C cl fp => (okE_ok fns elt (X := X.blk sh H sc (compEnvC sc cl C X.env) fp) gk (ok.e.blk h11 sh H sc cl C fp) h1).pe) (fun _ => notSet_is h12 _) (fun _ _ => notSet_is h10 _)
      exact sS_asgLc (z := z) (f := evE G.t G.C none (.lc2 elt tg it tg1 it1 vs vs1)) key (fun σ H Q q => by rw [ownOf_map, ← ok.e.hk]; exact lc2_reads (all_mem h8) (all_mem h7) q) fun q hq => nomatch hq
    · cases h
  | .par i j a b, c, X, W, hi, st, gk, ok, h => by
    unfold okS at h
    split at h
    · obtain ⟨h, h1⟩ := and2 h
      obtain ⟨h, h2⟩ := and2 h
      obtain ⟨h, h3⟩ := and2 h
      obtain ⟨h, h4⟩ := and2 h
      obtain ⟨h, h5⟩ := and2 h
      obtain ⟨h6, h7⟩ := and2 h
      obtain ⟨cal, _, hn⟩ := ok.e.cm h6
      subst hn
      obtain ⟨sw, lx, ly, pa, pb⟩ := parB_is ok.e.sc h3
      exact sS_par cal (by rw [ok.e.N]; exact ok.e.nd) (by rw [ok.e.N]; exact of_decide_eq_true h7) (by rw [ok.e.N]; exact of_decide_eq_true h5) (of_decide_eq_true h4) (by rw [ok.e.sc]; exact lx) (by rw [ok.e.sc]; exact ly)
        (okE_ok fns a gk ok.e h2).pe (okE_ok fns b gk ok.e h1).pe pa pb sw
    · cases h
  | .asgI o i e, c, X, W, hi, st, gk, ok, h => by
    unfold okS at h
    split at h
    · obtain ⟨h, h1⟩ := and2 h
      obtain ⟨h, h2⟩ := and2 h
      obtain ⟨h3, h4⟩ := and2 h
      exact sS_asgI ok.e.un (okE_ok fns e gk ok.e h4).pe (okE_ok fns o gk ok.e h2).pe (okE_ok fns i gk ok.e h1).pe h3 (swB_is (by unfold swB swN; simp))
    · cases h
  | .asgF o f e, c, X, W, hi, st, gk, ok, h => by
    unfold okS at h
    split at h
    · obtain ⟨h, h1⟩ := and2 h
      obtain ⟨h, h2⟩ := and2 h
      obtain ⟨h3, h4⟩ := and2 h
      exact sS_asgF (okE_ok fns e gk ok.e h2).pe (okE_ok fns o gk ok.e h1).pe (an_of gk.an (of_decide_eq_true h3)).1 (by simpa using h4) fun C hC => gk.fld C f hC
    · cases h
  | .aug i op e, c, X, W, hi, st, gk, ok, h => by
    unfold okS at h
    split at h
    · rename_i x p op' v pos
      obtain ⟨h, h1⟩ := and2 h
      obtain ⟨h, h2⟩ := and2 h
      obtain ⟨h, h3⟩ := and2 h
      obtain ⟨h4, h5⟩ := and2 h
      have eo := of_decide_eq_true h4
      subst eo
      unfold okT at h2
      obtain ⟨k1, k2⟩ := and2 h2
      have hv : c.hv = none := of_decide_eq_true h3
      have hN : X.N[i]? = some x := by rw [ok.e.N]; exact of_decide_eq_true k1
      have loc : L2.Loc X.env.scope x ∧ (X.fn x = true ∨ X.env.scope.names.lookup x = some .local) := by
        unfold L2.Loc
        rw [ok.e.sc, ok.e.fn]
        split at k2
        · rename_i hl; exact ⟨.inl hl, .inr hl⟩
        · rename_i hl; exact ⟨.inr hl, .inl k2⟩
        · cases k2
      exact sS_aug (by rw [ok.e.N]; exact ok.e.nd) hN loc.1 (okE_ok fns e gk ok.e h1).pe loc.2 (by rcases Bool.or_eq_true_iff.mp h5 with z | z; exact .inl (of_decide_eq_true z); exact .inr (of_decide_eq_true z))
        fun q hq j hj => by have := (ok.e.hv2 q hq).symm.trans hj; rw [hv] at this; cases this
    · cases h
  | .ife k a b, c, X, W, hi, st, gk, ok, h => by
    unfold okS at h
    split at h
    · obtain ⟨h, h1⟩ := and2 h
      obtain ⟨h, h2⟩ := and2 h
      obtain ⟨h3, h4⟩ := and2 h
      exact sS_ife ((okE_ok fns k gk ok.e h4).pt h3) (okSs_ok a gk ok h2) (okSs_ok b gk ok h1)
    · cases h
  | .wh k b, c, X, W, hi, st, gk, ok, h => by
    unfold okS at h
    split at h
    · obtain ⟨h, h1⟩ := and2 h
      obtain ⟨h, h2⟩ := and2 h
      obtain ⟨h3, h4⟩ := and2 h
      exact sS_wh (ok.po h3) ((okE_ok fns k gk ok.e h2).pt h4) (okSs_ok b gk ok h1)
    · cases h
  | .fr g it b, c, X, W, hi, st, gk, ok, h => by
    unfold okS at h
    split at h
    · obtain ⟨h, h1⟩ := and2 h
      obtain ⟨h, h2⟩ := and2 h
      obtain ⟨h, h3⟩ := and2 h
      obtain ⟨h4, h5⟩ := and2 h
      obtain ⟨cal, _, hn⟩ := ok.e.cm h4
      subst hn
      exact sS_fr ok.e.hk (ok.po h4) cal (okI_ok fns it gk ok.e h3) (okT_ok g ok.e h2) (okSs_ok b gk ok h1) (fun _ => notSet_is h5 _)
    · cases h
  | .rse k es, c, X, W, hi, st, gk, ok, h => by
    unfold okS at h
    split at h
    · rename_i x p ys p2 pos
      obtain ⟨h, h1⟩ := and2 h
      obtain ⟨h, h2⟩ := and2 h
      obtain ⟨h, h3⟩ := and2 h
      obtain ⟨h, h4⟩ := and2 h
      obtain ⟨h5, h6⟩ := and2 h
      obtain ⟨cal, hr, hn⟩ := ok.e.cm h5
      subst hn
      have gC : X.mg x = some (.ref (G.F.ca k)) := by rw [ok.e.mg]; exact gk.clv k x (of_decide_eq_true h6)
      split at h1
      · obtain ⟨B, nid, iid, bmB, F1, q1, q2, q3, q4⟩ := rz.r0 k h2 (List.isEmpty_iff.mp h1)
        exact sS_rse0 cal ok.e.tk F1 (by rw [ok.e.K]; exact q1) gC (by rw [ok.e.K]; exact q2) (raises_own (by rw [ok.e.K]; exact q3) (by rw [ok.e.K]; exact q4)) (ok.e.gl h4) (dbB_1 h3) (List.isEmpty_iff.mp h1)
      · rename_i a y
        obtain ⟨h1, h7⟩ := and2 h1
        obtain ⟨h8, h9⟩ := and2 h1
        have hlen := of_decide_eq_true h8
        obtain ⟨f, hfs⟩ := List.length_eq_one_iff.mp hlen
        obtain ⟨T, fI, fd, sn, pn, i1, i2, F1, hb, hno, hlt⟩ := rz.r1 k f h2 hfs
        have F2 : FnOk X.prog X.w X.K X.mg X.base (L2.CX X.prog X.w) 1 fI fd [sn, pn] (spI1 X.K (G.F.nm f)) := by
          rw [ok.e.prog, ok.e.w, ok.e.mg, ok.e.base, ok.e.K]; exact F1
        exact sS_rse1 cal ok.e.tk (by rw [ok.e.K]; exact T) (by rw [ok.e.K]; exact i1) (by rw [ok.e.K]; exact i2) F2 hr (by rw [ok.e.K]; exact hb) (ok.e.gl h4) gC (okE_ok fns a gk ok.e h7).pe (dbB_1 h3) h9 hfs rfl hlt (by rw [ok.e.K]; exact hno)
      · cases h1
    · cases h
  | .tri b hs, c, X, W, hi, st, gk, ok, h => by
    unfold okS at h
    split at h
    · rename_i xs h0 hds pos
      obtain ⟨h, h1⟩ := and2 h
      obtain ⟨h2, h3⟩ := and2 h
      obtain ⟨cal, _, hn⟩ := ok.e.cm h2
      subst hn
      obtain ⟨l, q1, q2⟩ := okHs_ok hs gk ok h1
      exact sS_tri (ok.top h2).1 (ok.top h2).2 (by rw [ok.e.N]; exact ok.e.nd) ok.e.tk (fun W' pn xe tk po => okSs_ok b (X := X.tr pn xe) gk (ok.tr tk po) h3) q1 q2
    · cases h
theorem okSs_ok : ∀ (ss : Ss) {c : Sc} {X : Cx} {W : WX} {hi : Option Hi} {sts : List Stmt}, Gk X.K G.F G.t G.tb G.mg → CokS G c X W hi → okSs G.tb G.t ss c sts = true → PSs X sts (tS G.F W hi (evSs G.t G.C ss (hi.map (·.x))))
  | .nil, c, X, W, hi, sts, gk, ok, h => by
    unfold okSs at h
    cases sts with
    | nil => exact sS_nil
    | cons _ _ => cases h
  | .cons s r, c, X, W, hi, sts, gk, ok, h => by
    unfold okSs at h
    cases sts with
    | nil => cases h
    | cons st sts =>
      obtain ⟨h1, h2⟩ := and2 h
      exact sS_cons (okS_ok s gk ok h1) (okSs_ok r gk ok h2)
theorem okHs_ok : ∀ (hs : Hs) {c : Sc} {X : Cx} {W : WX} {hds : List ExceptHandler}, Gk X.K G.F G.t G.tb G.mg → CokS G c X W none → okHs G.tb G.t hs c hds = true → ∃ l, HdsMix X hds l ∧ HsRel X.K G.F G.t G.C hs l
  | .nil, c, X, W, hds, gk, ok, h => by
    unfold okHs at h
    cases hds with
    | nil => exact ⟨[], .nil, .nil⟩
    | cons _ _ => cases h
  | .cons T n b r, c, X, W, hds, gk, ok, h => by
    unfold okHs at h
    split at h
    · rename_i x p nm b0 su pos hds'
      obtain ⟨h, h1⟩ := and2 h
      obtain ⟨h, h2⟩ := and2 h
      obtain ⟨h, h3⟩ := and2 h
      obtain ⟨h4, h5⟩ := and2 h
      obtain ⟨l, q1, q2⟩ := okHs_ok r gk ok h1
      have hc : ∃ cv, Names X x cv ∧ ∀ y v, xisB G.t y T = some v → PySem.W.exmOne X.K (.ref (G.F.ca y.c)) cv = some v := by
        unfold clsB at h4
        cases T with
        | value =>
          obtain ⟨k1, k2⟩ := and2 h4
          have e := of_decide_eq_true k1
          subst e
          refine ⟨.type "ValueError", ⟨ok.e.gl k2, by decide +kernel, .inr ⟨ok.e.blt gk (by decide +kernel), by decide +kernel, by decide +kernel⟩⟩, fun y v hh => ?_⟩
          simp only [xisB] at hh
          split at hh
          · rename_i z; cases hh; exact (gk.xval y.c z).2
          · cases hh
        | own d =>
          obtain ⟨k1, k2⟩ := and2 h4
          obtain ⟨k1, k3⟩ := and2 k1
          obtain ⟨k4, k5⟩ := and2 k1
          refine ⟨.ref (G.F.ca d), ⟨ok.e.gl k5, dbB_1 k3, .inl (by rw [ok.e.mg]; exact gk.clv d x (of_decide_eq_true k4))⟩, fun y v hh => ?_⟩
          simp only [xisB] at hh
          split at hh
          · rename_i z; cases hh; exact (gk.xkit y.c d z.1 z.2).2
          · cases hh
        | _ => cases h5
      obtain ⟨cv, c1, c2⟩ := hc
      have suite : ∀ (a : Addr) (oe : Obj) (cls : Value) (d : Option Addr) (pn : List (Addr × Obj)), Zc cls d oe → (∃ vs, oe.data = .fields vs) →
          PSs (X.suite a ((a, oe) :: pn)) (b0 :: su) (fun En σ H => ∃ x, tS G.F W0 (some ⟨a, cls, d, x, n⟩) (fun ρ S => evSs G.t G.C b (some x) ρ S) En σ H) := fun a oe cls d pn hz hf =>
        ⟨fun pins s σ H En I ⟨y, q⟩ => (okSs_ok b (X := X.suite a ((a, oe) :: pn)) gk (ok.suite (x := y) (n := n) hz hf) h2).run pins s σ H En I q⟩
      cases n with
      | none =>
        cases nm with
        | none => exact ⟨_, .cons (n := none) c1 (fun q hq => nomatch hq) suite q1, .cons c2 q2⟩
        | some y => cases h3
      | some i =>
        cases nm with
        | none => cases h3
        | some y =>
          obtain ⟨k1, k2⟩ := and2 h3
          refine ⟨_, .cons (n := some (y, i)) c1 (fun q hq => ?_) suite q1, .cons c2 q2⟩
          cases hq
          refine ⟨by rw [ok.e.N]; exact of_decide_eq_true k1, ?_⟩
          show X.env.scope.names.lookup y = _
          rw [ok.e.sc]; exact of_decide_eq_true k2
    · cases h
end
end
end Ev
end
section
set_option Elab.async false
set_option linter.all false
set_option maxRecDepth 100000
set_option maxHeartbeats 4000000
set_option autoImplicit false
/-! Ev, part R: all defs at once, the law's end. -/
namespace Ev
open PySem PySem.Spec PyProof.Rows L2

theorem RepL.some_get {F : Fx} {μ : Mu} {H : Hp} : ∀ {ds : List D} {vs : List V} {i : Nat} {d : D} {k : Nat}, RepL F μ H ds vs → ((ds.map some ++ List.replicate k none : List (Option D))[i]? = some (some d)) →
    ∃ v, (vs.map some ++ List.replicate k none : List (Option V))[i]? = some (some v) ∧ Rep F μ H d v := by
  intro ds vs i d k r h
  have hl := r.length
  by_cases hi : i < ds.length
  · rw [List.getElem?_append_left (by simpa using hi), List.getElem?_map] at h
    obtain ⟨d', h1, h2⟩ := Option.map_eq_some_iff.mp h
    cases h2
    obtain ⟨v, e1, e2⟩ := r.get h1
    exact ⟨v, by rw [List.getElem?_append_left (by simp [hl]; exact hi), List.getElem?_map, e1]; rfl, e2⟩
  · rw [List.getElem?_append_right (by simp; omega)] at h
    have h3 : (List.replicate k (none : Option D))[i - (ds.map some).length]? = some (some d) := h
    rw [List.getElem?_replicate] at h3
    split at h3 <;> cases h3
theorem start_env {F : Fx} {μ : Mu} {H : Hp} {ds : List D} {vs : List V} {N : List Str} (r : RepL F μ H ds vs) (n : Nat) (hn : n = N.length) : EnvR F none μ H (ds.map some ++ List.replicate (n - ds.length) none) (L2.start N vs) := by
  subst hn
  refine EnvR.of ⟨?_, fun i d h => ?_⟩
  · unfold L2.start; simp [r.length]
  · unfold L2.start
    rw [r.length]
    exact r.some_get h
/-- a def of the text, as the tables have it -/
structure DefOk (K : PySem.W.Frag) (t : Ct) (tb : Tb) (f : Nat) (fa : Addr) : Prop where
  ex : ∃ (x qual : Str) (params : Arguments) (body : List Stmt) (scope : Scope) (kws : List (Str × V)) (fd : FuncData) (N ps : List Str) (d : Df),
    FunD K x qual params body scope [] kws fa fd ∧ FnScope N ps scope ∧ Binds K fd ps [] ∧ t.defs f = some d ∧ d.np = ps.length ∧ d.nn = N.length ∧
      okSs tb t d.body { N := N, sc := scope, fn := fun _ => true, cm := true, hv := none } body = true
theorem def_run {F : Fx} {μ : Mu} {H : Hp} {σ : L2.St} {W : WX} {Q : VK} {t : Ct} {C : Orc} {d : Df} {ds : List D} {S : List O} {En : Ends} (rel : Rel F μ S H) (hn : ∀ σ H, Q .non H → En.nx σ H) (hr : ∀ v H, Q v H → En.rt v H) (hW : ∀ cls dd σ' H, W cls dd σ H → W cls dd σ' H)
    (h : Sat F μ H (runD t C d ds S) σ W (PD F Q)) : ds.length = d.np ∧ SatF F none W En μ H (evSs t C d.body none (ds.map some ++ List.replicate (d.nn - ds.length) none) S) := by
  unfold runD at h
  split at h
  · rename_i hl
    refine ⟨hl, ?_⟩
    have h2 : Sat F μ H (match evSs t C d.body none (ds.map some ++ List.replicate (d.nn - ds.length) none) S with
      | .nx _ S' => .ok .non S'
      | .rt v S' => .ok v S'
      | .ex x _ S' => .ex x S'
      | .bad => .bad) σ W (PD F Q) := by
      dsimp only at h
      split at h
      · exact h
      · exact gcSat rel h
    cases hf : evSs t C d.body none (ds.map some ++ List.replicate (d.nn - ds.length) none) S with
    | nx ρ S' => rw [hf] at h2; exact fun μ' H' σ' x r e => hn _ _ (h2 μ' H' x r .non rfl)
    | rt v S' => rw [hf] at h2; exact fun μ' H' w x r e => hr _ _ (h2 μ' H' x r w e)
    | ex y ρ S' => rw [hf] at h2; exact fun μ' H' σ' cls dd x r e z => hW _ _ _ _ (h2 μ' H' cls dd x r z)
    | bad => rw [hf] at h2; exact h2.elim
  · exact h.elim
theorem sp_sat {F : Fx} {n : Nat} {r : List D → List O → R D} {vs : List V} {H : Hp} {Q : VK} {E : XK} (h : spD F n r vs H Q E) : ∃ μ S ds, Rel F μ S H ∧ RepL F μ H ds vs ∧ ∀ σ, Sat F μ H (r ds S) σ (fun cls d _ H => E cls d H) (PD F Q) := by
  obtain ⟨_, μ, S, ds, rel, rds, h⟩ := h
  refine ⟨μ, S, ds, rel, rds, fun σ => ?_⟩
  cases hr : r ds S with
  | ok d S' => rw [hr] at h; exact fun μ' H' x r' v rv => h μ' H' v x r' rv
  | ex y S' => rw [hr] at h; exact h
  | bad => rw [hr] at h; exact h
theorem runD_len {t : Ct} {C : Orc} {d : Df} {ds : List D} {S : List O} (h : runD t C d ds S ≠ .bad) : ds.length = d.np := by
  unfold runD at h
  split at h
  · assumption
  · exact (h rfl).elim
section
variable {P : Program} {w : World} {F : Fx} {t : Ct} {tb : Tb} {mg : Str → Option Value} {base : Heap}
/-- one def, its callees at the level below -/
theorem def_fn {k f : Nat} {fa : Addr} {x qual : Str} {params : Arguments} {body : List Stmt} {scope : Scope} {kws : List (Str × V)} {fd : FuncData} {N ps : List Str} {d : Df} (gk : Gk F.K F t tb mg) (rz : Rz ⟨F, t, callD t k, k, P, w, mg, base, tb⟩)
    (fns : ∀ f x, tb.fn[f]? = some x → ∃ fa, mg x = some (.ref fa) ∧ FnA ⟨F, t, callD t k, k, P, w, mg, base, tb⟩ f fa)
    (Fd : FunD F.K x qual params body scope [] kws fa fd) (sc : FnScope N ps scope) (hd : t.defs f = some d) (hnn : d.nn = N.length)
    (hok : okSs tb t d.body { N := N, sc := scope, fn := fun _ => true, cm := true, hv := none } body = true) : FnOk P w F.K mg base (L2.CX P w) (k + 1 + 3) fa fd ps (spD F ps.length (callD t (k + 1) f)) := by
  have hcall : ∀ ds S, callD t (k + 1) f ds S = runD t (callD t k) d ds S := fun ds S => by
    show (match t.defs f with
      | some d => runD t (callD t k) d ds S
      | none => .bad) = _
    rw [hd]
  refine Fd.ok (k := k + 3) sc (fun vs H Q E h => h.1) fun cdv A outer s H vs Q E hr h => ?_
  obtain ⟨μ, S, ds, rel, rds, hs⟩ := sp_sat h
  have ok : CokS ⟨F, t, callD t k, k, P, w, mg, base, tb⟩ { N := N, sc := scope, fn := fun _ => true, cm := true, hv := none } (cxOf (L2.CX P w) P w F.K mg base N qual scope fa cdv A outer s H E) (fun cls d _ H => E cls d H) none :=
    { e := ⟨rfl, rfl, rfl, rfl, rfl, rfl, sc.nd, rfl, rfl, hr.units, takes_of rfl rfl rfl rfl, fun _ => ⟨rfl, hr, rfl⟩, fun _ => rfl, fun h e => (by cases e), fun h e => (by cases e)⟩
      po := fun _ => passes_of rfl
      top := fun _ => ⟨rfl, rfl⟩ }
  refine ⟨_, okSs_ok fns rz d.body gk ok hok, ?_⟩
  have hs' := hs (L2.start N vs)
  show tS F (fun cls d _ H => E cls d H) none (evSs t (callD t k) d.body none) { nx := fun _ H' => Q .non H', rt := Q } (L2.start N vs) H
  have hs2 : Sat F μ H (runD t (callD t k) d ds S) (L2.start N vs) (fun cls d _ H => E cls d H) (PD F Q) := by rw [← hcall]; exact hs'
  obtain ⟨hl, hf⟩ := def_run (En := { nx := fun _ H' => Q .non H', rt := Q }) rel (fun _ _ q => q) (fun _ _ q => q) (fun _ _ _ _ q => q) hs2
  exact ⟨_, μ, S, start_env rds d.nn hnn, rel, hf⟩
theorem def_ok {k f : Nat} {fa : Addr} (gk : Gk F.K F t tb mg) (rz : Rz ⟨F, t, callD t k, k, P, w, mg, base, tb⟩)
    (fns : ∀ f x, tb.fn[f]? = some x → ∃ fa, mg x = some (.ref fa) ∧ FnA ⟨F, t, callD t k, k, P, w, mg, base, tb⟩ f fa) (df : DefOk F.K t tb f fa) : FnA ⟨F, t, callD t (k + 1), k + 1, P, w, mg, base, tb⟩ f fa := by
  obtain ⟨x, qual, params, body, scope, kws, fd, N, ps, d, Fd, sc, hb, hd, hnp, hnn, hok⟩ := df.ex
  refine ⟨Fd.kp, fd, ps, ps.length, hb, def_fn gk rz fns Fd sc hd hnn hok, fun ds S h => ?_⟩
  have h' : callD t (k + 1) f ds S ≠ .bad := h
  have hcall : callD t (k + 1) f ds S = runD t (callD t k) d ds S := by
    show (match t.defs f with
      | some d => runD t (callD t k) d ds S
      | none => .bad) = _
    rw [hd]
  rw [hcall] at h'
  rw [runD_len h', hnp]
theorem all_ok (gk : Gk F.K F t tb mg) (rz : ∀ C k, Rz ⟨F, t, C, k, P, w, mg, base, tb⟩) (df : ∀ f x, tb.fn[f]? = some x → ∃ fa, mg x = some (.ref fa) ∧ DefOk F.K t tb f fa) :
    ∀ (k f : Nat) (x : Str), tb.fn[f]? = some x → ∃ fa, mg x = some (.ref fa) ∧ FnA ⟨F, t, callD t k, k, P, w, mg, base, tb⟩ f fa
  | 0, f, x, h => by
    obtain ⟨fa, m, d⟩ := df f x h
    refine ⟨fa, m, ?_⟩
    obtain ⟨x, qual, params, body, scope, kws, fd, N, ps, d, Fd, sc, hb, _⟩ := d.ex
    exact ⟨Fd.kp, fd, ps, ps.length, hb, ⟨fun vs H Q E h => h.1, fun A outer s H args us vs Q E hr e0 b r h => by obtain ⟨_, μ, S, ds, _, _, z⟩ := h; exact z.elim⟩, fun ds S h => (h rfl).elim⟩
  | k + 1, f, x, h => by
    obtain ⟨fa, m, d⟩ := df f x h
    exact ⟨fa, m, def_ok gk (rz _ _) (all_ok gk rz df k) d⟩
end
/-- the law's promise -/
theorem law_sp {F : Fx} {t : Ct} {k L : Nat} {a : Addr} {ns : List Int} {H : Hp} (h : SqL F.K H a (ns.map V.int)) (hl : ∃ S, callD t k L [.fl (ns.map D.int)] [] = .ok (.bl true) S) :
    spD F 1 (callD t k L) [.ref a] H (fun v _ => v = .bl true) fun _ _ _ => False := by
  obtain ⟨S, hl⟩ := hl
  have key : ∀ ns : List Int, RepL F [] H (ns.map D.int) (ns.map V.int) := fun ns => by
    induction ns with
    | nil => rfl
    | cons n ns ih => exact ⟨_, _, rfl, rfl, ih⟩
  refine ⟨rfl, [], [], [.fl (ns.map D.int)], ⟨rfl, by simp, fun n o b e => by simp at e⟩, ⟨_, _, rfl, ⟨a, _, rfl, ?_, key ns⟩, rfl⟩, ?_⟩
  · rcases h with z | z
    · exact .inl ⟨by simp, z⟩
    · exact .inr z
  · rw [hl]
    exact fun μ' H' v _ _ rv => rv
end Ev
end
section
set_option Elab.async false
set_option linter.all false
set_option maxRecDepth 100000
set_option maxHeartbeats 4000000
set_option autoImplicit false
/-! Ev, part S: the tables of a law, what its written part must say. -/
namespace Ev
open PySem PySem.Spec PyProof.Rows L2

/-- an exception class that has an own __init__ of one field -/
structure Ini where
  c : Nat
  f : Nat
  sn : Str
  pn : Str
/-- the tables as lists -/
structure Tl where
  tb : Tb
  gv : List D
  sub : List (Nat × Nat)
  val : List Nat
  icl : List Nat
  exc : List Nat
  /-- the class, the attribute -/
  fld : List (Nat × Nat)
  mth : List (Nat × Nat × Nat)
  ini : List (Nat × Nat)
  xin : List Ini
  defs : List Df
def xfsOf : List Ini → Nat → List Nat
  | [], _ => []
  | q :: r, c => if q.c = c then [q.f] else xfsOf r c
def Tl.ct (l : Tl) : Ct where
  glb g := l.gv.getD g .non
  sub c d := l.sub.contains (c, d)
  val c := l.val.contains c
  icl c := l.icl.contains c
  exc c := l.exc.contains c
  fld c f := l.fld.contains (c, f)
  mth c m := (l.mth.find? fun q => q.1 == c && q.2.1 == m).map (·.2.2)
  ini c := (l.ini.find? fun q => q.1 == c).map (·.2)
  xfs c := xfsOf l.xin c
  defs f := l.defs[f]?
def clNm (l : Tl) (c : Nat) : Str := l.tb.cl.getD c ""
def clA (l : Tl) (K : PySem.W.Frag) (c : Nat) : Addr := He.ga K (clNm l c)
def fxOf (l : Tl) (K : PySem.W.Frag) (nd : l.tb.an.Nodup) : Fx := { K := K, ca := clA l K, an := l.tb.an, nd := nd }
def atN (l : Tl) (f : Nat) : Str := l.tb.an.getD f ""
/-! ### constants -/
mutual
def valB (K : PySem.W.Frag) : D → Value → Bool
  | .non, u => decide (u = .none)
  | .bl b, u => decide (u = .bool b)
  | .int i, u => (match u with
    | .int j _ => decide (i = j)
    | _ => false)
  | .str cs, u => (match u with
    | .str x _ => decide (x = mkS cs)
    | _ => false)
  | .ft ds, u => (match u with
    | .ref a => (match K.lookup a with
      | some ⟨.type "tuple", _, .seq its _, _⟩ => decide (its.size ≤ 1000) && valsB K ds its.toList
      | _ => false)
    | _ => false)
  | _, _ => false
def valsB (K : PySem.W.Frag) : List D → List Value → Bool
  | [], [] => true
  | d :: ds, u :: us => valB K d u && valsB K ds us
  | _, _ => false
end
mutual
theorem valB_ok {F : Fx} : ∀ (d : D) (u : Value), valB F.K d u = true → ∃ v, RelV v u ∧ ∀ μ H, Rep F μ H d v
  | .non, u, h => by cases of_decide_eq_true h; exact ⟨.non, rfl, fun _ _ => rfl⟩
  | .bl b, u, h => by cases of_decide_eq_true h; exact ⟨.bl b, rfl, fun _ _ => rfl⟩
  | .int i, u, h => by
    unfold valB at h
    split at h
    · cases of_decide_eq_true h; exact ⟨.int i, ⟨_, rfl⟩, fun _ _ => rfl⟩
    · cases h
  | .str cs, u, h => by
    unfold valB at h
    split at h
    · cases of_decide_eq_true h; exact ⟨.str _, ⟨_, rfl⟩, fun _ _ => rfl⟩
    · cases h
  | .ft ds, u, h => by
    unfold valB at h
    split at h
    · rename_i a
      split at h
      · rename_i od its n sl hl
        obtain ⟨h1, h2⟩ := and2 h
        obtain ⟨vs, r1, r2⟩ := valsB_ok ds its.toList h2
        refine ⟨.ref a, rfl, fun μ H => ⟨a, vs, rfl, .inr ⟨_, its, n, hl, rfl, rfl, ?_, r1⟩, r2 μ H⟩⟩
        have := of_decide_eq_true h1
        rw [sizeLine_eq]; omega
      · cases h
    · cases h
  | .tup _, _, h => by unfold valB at h; cases h
  | .lst _, _, h => by unfold valB at h; cases h
  | .fl _, _, h => by unfold valB at h; cases h
  | .dk _ _, _, h => by unfold valB at h; cases h
  | .dt _ _, _, h => by unfold valB at h; cases h
  | .ins _ _ _, _, h => by unfold valB at h; cases h
  | .ref _, _, h => by unfold valB at h; cases h
  | .cls _, _, h => by unfold valB at h; cases h
theorem valsB_ok {F : Fx} : ∀ (ds : List D) (us : List Value), valsB F.K ds us = true → ∃ vs, Vals vs us ∧ ∀ μ H, RepL F μ H ds vs
  | [], [], _ => ⟨[], .nil, fun _ _ => rfl⟩
  | d :: ds, u :: us, h => by
    obtain ⟨h1, h2⟩ := and2 (show (valB F.K d u && valsB F.K ds us) = true from h)
    obtain ⟨v, a1, a2⟩ := valB_ok d u h1
    obtain ⟨vs, b1, b2⟩ := valsB_ok ds us h2
    exact ⟨v :: vs, .cons a1 b1, fun μ H => ⟨v, vs, rfl, a2 μ H, b2 μ H⟩⟩
  | [], _ :: _, h => nomatch h
  | _ :: _, [], h => nomatch h
end
def glB' (K : PySem.W.Frag) (x : Str) (d : D) : Bool := match PySem.W.nsIn K mainGlobals x with
  | some (some u) => valB K d u
  | _ => false
def glsB (K : PySem.W.Frag) : List Str → List D → Bool
  | [], _ => true
  | x :: xs, d :: ds => glB' K x d && glsB K xs ds
  | _ :: _, [] => false
def clsFB (K : PySem.W.Frag) (C : Addr) : Bool := PySem.W.plainGet K C Str.empty && PySem.W.hasDictIn K C && PySem.W.plainOver K C && decide (PySem.W.findIn K (.ref C) "__setattr__" = some (some (.builtin "object.__setattr__"))) &&
  decide (PySem.W.findIn K (.ref C) "__class__" = some (some (.builtin "object.__class__"))) && decide (PySem.W.specialIn K (.builtin "object.__class__") "__get__" = some (some (.builtin "getset_descriptor.__get__"))) &&
  decide (PySem.W.takesIn K (.builtin "object.__class__") = some true) && decide (PySem.W.mroIn K C (.type "object") = some true)
def excCB (K : PySem.W.Frag) (D : Addr) : Bool := decide (PySem.W.findIn K (.ref D) "__getattribute__" = some (some (.builtin "BaseException.__getattribute__"))) && decide (PySem.W.findIn K (.ref D) "__getattr__" = some none) &&
  decide (PySem.W.subIn K (.ref D) (.type "BaseException") = some true) && PySem.W.hasDictIn K D && decide (PySem.W.findIn K (.ref D) "__class__" = some (some (.builtin "object.__class__"))) &&
  decide (PySem.W.specialIn K (.builtin "object.__class__") "__get__" = some (some (.builtin "getset_descriptor.__get__"))) && decide (PySem.W.takesIn K (.builtin "object.__class__") = some true) && decide (PySem.W.mroIn K D (.type "object") = some true)
def rz0B (K : PySem.W.Frag) (C : Addr) : Bool := PySem.W.excIn K C He.veBase "ValueError.__new__" && PySem.W.keepIn K (.ref C) && decide (PySem.W.subIn K (.ref C) (.type "BaseException") = some true) && decide (PySem.W.typeIn K (.ref C) = some (.type "type"))
def oexB (K : PySem.W.Frag) (C : Addr) : Bool := (match K.lookup C with
    | some ⟨.type "type", _, .cls ⟨_, _, .ref C' :: bm, _, _, hd, _, _, _, _, hdel⟩, ⟨[_, _, _, _, some (.builtin n), _]⟩⟩ => decide (C' = C) && decide (n = "ValueError.__new__") && hd && !hdel && PySem.HandSPX.refsVE bm
    | _ => false) && decide (PySem.W.findIn K (.ref C) "__setattr__" = some (some (.builtin "object.__setattr__"))) && decide (PySem.W.subIn K (.ref C) (.type "BaseException") = some true) && decide (PySem.W.typeIn K (.ref C) = some (.type "type")) && PySem.W.keepIn K (.ref C)
theorem oexB_ok {K : PySem.W.Frag} {C : Addr} (h : oexB K C = true) : OexC K C := by
  obtain ⟨h, h1⟩ := and2 h
  obtain ⟨h, h2⟩ := and2 h
  obtain ⟨h, h3⟩ := and2 h
  obtain ⟨h4, h5⟩ := and2 h
  refine ⟨?_, of_decide_eq_true h5, of_decide_eq_true h3, of_decide_eq_true h2, h1⟩
  split at h4
  · rename_i dd nm bs C' bm N qn hd sn sub ab col hdel k0 k1 k2 k3 n k5 hl
    obtain ⟨h, a1⟩ := and2 h4
    obtain ⟨h, a2⟩ := and2 h
    obtain ⟨h, a3⟩ := and2 h
    obtain ⟨a4, a5⟩ := and2 h
    cases of_decide_eq_true a4
    cases of_decide_eq_true a5
    cases a3
    cases hdel with
    | true => cases a2
    | false => exact ⟨nm, qn, N, bs, bm, sn, sub, ab, col, dd, k0, k1, k2, k3, k5, hl, a1⟩
  · cases h4
/-- all that the written part must say -/
def gkB (l : Tl) (K : PySem.W.Frag) : Bool :=
  (bltN.all fun x => decide (PySem.W.nsIn K mainGlobals x = some none)) && glsB K l.tb.gl l.gv &&
  (l.tb.cl.all fun x => decide (PySem.W.nsIn K mainGlobals x = some (some (.ref (He.ga K x))))) &&
  (l.fld.all fun q => clsFB K (clA l K q.1) && decide (PySem.W.findIn K (.ref (clA l K q.1)) (atN l q.2) = some none) && decide (q.2 < l.tb.an.length)) &&
  (l.icl.all fun c => clsFB K (clA l K c) && (l.icl.all fun d => decide (PySem.W.kitOne K (.ref (clA l K c)) (.ref (clA l K d)) = some (l.sub.contains (c, d)))) &&
    (["int", "bool", "str", "list", "tuple", "dict"].all fun T => decide (PySem.W.kitOne K (.ref (clA l K c)) (.type T) = some false)) &&
    (["NoneType", "bool", "int", "str", "tuple", "list", "dict"].all fun n => decide (PySem.W.kitOne K (.type n) (.ref (clA l K c)) = some false))) &&
  (l.exc.all fun c => excCB K (clA l K c) && (l.exc.all fun d => decide (PySem.W.kitOne K (.ref (clA l K c)) (.ref (clA l K d)) = some (l.sub.contains (c, d))) && decide (PySem.W.exmOne K (.ref (clA l K c)) (.ref (clA l K d)) = some (l.sub.contains (c, d)))) &&
    decide (PySem.W.kitOne K (.ref (clA l K c)) (.type "ValueError") = some (l.val.contains c)) && decide (PySem.W.exmOne K (.ref (clA l K c)) (.type "ValueError") = some (l.val.contains c)) &&
    ((l.xin.any fun q => q.c == c) || rz0B K (clA l K c))) &&
  (l.xin.all fun q => xfB K (clA l K q.c) && oexB K (clA l K q.c) && decide (PySem.W.findIn K (.ref (clA l K q.c)) (atN l q.f) = some none) && decide (q.f < l.tb.an.length) &&
    decide (PySem.W.findIn K (.ref (clA l K q.c)) "__init__" = some (some (.ref (He.ma K (clA l K q.c) "__init__")))) && decide (PySem.W.typeIn K (.ref (He.ma K (clA l K q.c) "__init__")) = some (.type "function")))
theorem glsB_ok {K : PySem.W.Frag} : ∀ {xs : List Str} {ds : List D} {g : Nat} {x : Str}, glsB K xs ds = true → xs[g]? = some x → glB' K x (ds.getD g .non) = true
  | y :: ys, d :: ds, 0, x, h, e => by
    cases e
    exact (and2 h).1
  | y :: ys, d :: ds, g + 1, x, h, e => by
    have := glsB_ok (g := g) (and2 h).2 (by simpa using e)
    simpa using this
  | [], _, _, _, _, e => by simp at e
  | _ :: _, [], _, _, h, _ => nomatch h
theorem clsFB_ok {K : PySem.W.Frag} {C : Addr} (h : clsFB K C = true) : ClsF K C := by
  obtain ⟨h, h1⟩ := and2 h
  obtain ⟨h, h2⟩ := and2 h
  obtain ⟨h, h3⟩ := and2 h
  obtain ⟨h, h4⟩ := and2 h
  obtain ⟨h, h5⟩ := and2 h
  obtain ⟨h, h6⟩ := and2 h
  obtain ⟨h7, h8⟩ := and2 h
  exact ⟨⟨h7, h8, h6, of_decide_eq_true h5⟩, of_decide_eq_true h4, of_decide_eq_true h3, of_decide_eq_true h2, of_decide_eq_true h1⟩
theorem excCB_ok {K : PySem.W.Frag} {C : Addr} (h : excCB K C = true) : ExcC K C := by
  obtain ⟨h, h1⟩ := and2 h
  obtain ⟨h, h2⟩ := and2 h
  obtain ⟨h, h3⟩ := and2 h
  obtain ⟨h, h4⟩ := and2 h
  obtain ⟨h, h5⟩ := and2 h
  obtain ⟨h, h6⟩ := and2 h
  obtain ⟨h7, h8⟩ := and2 h
  exact ⟨of_decide_eq_true h7, of_decide_eq_true h8, of_decide_eq_true h6, h5, of_decide_eq_true h4, of_decide_eq_true h3, of_decide_eq_true h2, of_decide_eq_true h1⟩
theorem con_mem {α : Type} [BEq α] [LawfulBEq α] {l : List α} {a : α} (h : l.contains a = true) : a ∈ l := by simpa using h
theorem xfs_mem : ∀ {l : List Ini} {c f : Nat}, (xfsOf l c).contains f = true → ∃ q ∈ l, q.c = c ∧ q.f = f
  | [], _, _, h => by simp [xfsOf] at h
  | q :: r, c, f, h => by
    unfold xfsOf at h
    split at h
    · rename_i e
      exact ⟨q, List.mem_cons_self, e, by simpa using (by simpa using h : f = q.f).symm⟩
    · obtain ⟨p, h1, h2⟩ := xfs_mem h
      exact ⟨p, List.mem_cons_of_mem _ h1, h2⟩
theorem xfs_nil : ∀ {l : List Ini} {c : Nat}, xfsOf l c = [] → (l.any fun q => q.c == c) = false
  | [], _, _ => rfl
  | q :: r, c, h => by
    unfold xfsOf at h
    split at h
    · cases h
    · rename_i e
      show (q.c == c || r.any fun q => q.c == c) = false
      rw [xfs_nil h]
      simp [e]
section
variable {l : Tl} {K : PySem.W.Frag} {h : Heap} {mg : Str → Option Value} {nd : l.tb.an.Nodup}
theorem gk_of (X : K.In h) (G : h.Ns mainGlobals mg) (b : gkB l K = true) : Gk K (fxOf l K nd) l.ct l.tb mg := by
  obtain ⟨b, b1⟩ := and2 b
  obtain ⟨b, b2⟩ := and2 b
  obtain ⟨b, b3⟩ := and2 b
  obtain ⟨b, b4⟩ := and2 b
  obtain ⟨b, b5⟩ := and2 b
  obtain ⟨b6, b7⟩ := and2 b
  have I := fun c hc => List.all_eq_true.mp b3 c (con_mem hc)
  have E := fun c hc => List.all_eq_true.mp b2 c (con_mem hc)
  have fl := fun q hq => List.all_eq_true.mp b4 q hq
  have xi := fun q hq => List.all_eq_true.mp b1 q hq
  refine ⟨rfl, rfl, fun x hx => ?_, fun g x hx => ?_, fun c x hx => ?_, fun C f hf => ?_, fun C hC => ?_, fun C c hC hc => ?_, fun C T hC hT => ?_, fun n c hc hn => ?_, fun c f hf => ?_, fun c hc => ?_, fun c d hc hd => ?_, fun c hc => ?_⟩
  · exact PySem.W.mg_none_of X G (of_decide_eq_true (List.all_eq_true.mp b6 x hx))
  · have q := glsB_ok b7 hx
    unfold glB' at q
    split at q
    · rename_i u hu
      obtain ⟨v, r1, r2⟩ := valB_ok (F := fxOf l K nd) _ u q
      exact ⟨v, u, PySem.W.mg_of X G hu, r1, r2⟩
    · cases q
  · have q := List.all_eq_true.mp b5 x (List.mem_of_getElem? hx)
    have e : clNm l c = x := by
      unfold clNm
      rw [List.getD_eq_getElem?_getD, hx]; rfl
    show mg x = some (.ref (He.ga K (clNm l c)))
    rw [e]
    exact PySem.W.mg_of X G (of_decide_eq_true q)
  · obtain ⟨q, q1⟩ := and2 (fl _ (con_mem hf))
    obtain ⟨q2, q3⟩ := and2 q
    have n : PySem.W.findIn K (.ref (clA l K C)) (atN l f) = some none := of_decide_eq_true q3
    exact ⟨(clsFB_ok q2).cls, n, of_decide_eq_true q1⟩
  · obtain ⟨q, _⟩ := and2 (I C hC)
    obtain ⟨q, _⟩ := and2 q
    exact clsFB_ok (and2 q).1
  · obtain ⟨q, _⟩ := and2 (I C hC)
    obtain ⟨q, _⟩ := and2 q
    exact of_decide_eq_true (List.all_eq_true.mp (and2 q).2 c (con_mem hc))
  · obtain ⟨q, _⟩ := and2 (I C hC)
    exact of_decide_eq_true (List.all_eq_true.mp (and2 q).2 T hT)
  · exact of_decide_eq_true (List.all_eq_true.mp (and2 (I c hc)).2 n hn)
  · obtain ⟨q, hq, rfl, rfl⟩ := xfs_mem hf
    have z := xi q hq
    obtain ⟨z, _⟩ := and2 z
    obtain ⟨z, _⟩ := and2 z
    obtain ⟨z, z1⟩ := and2 z
    obtain ⟨z, z2⟩ := and2 z
    exact ⟨xfB_ok (and2 z).1, of_decide_eq_true z2, of_decide_eq_true z1⟩
  · obtain ⟨q, _⟩ := and2 (E c hc)
    obtain ⟨q, _⟩ := and2 q
    obtain ⟨q, _⟩ := and2 q
    exact excCB_ok (and2 q).1
  · obtain ⟨q, _⟩ := and2 (E c hc)
    obtain ⟨q, _⟩ := and2 q
    obtain ⟨q, _⟩ := and2 q
    obtain ⟨z1, z2⟩ := and2 (List.all_eq_true.mp (and2 q).2 d (con_mem hd))
    exact ⟨of_decide_eq_true z1, of_decide_eq_true z2⟩
  · obtain ⟨q, _⟩ := and2 (E c hc)
    obtain ⟨q, z1⟩ := and2 q
    obtain ⟨q, z2⟩ := and2 q
    exact ⟨of_decide_eq_true z2, of_decide_eq_true z1⟩
theorem rz_of {P : Program} {w : World} {base : Heap} {C : Orc} {k : Nat} (b : gkB l K = true) (xi : ∀ q ∈ l.xin, ∃ fd, FnOk P w K mg base (L2.CX P w) 1 (He.ma K (clA l K q.c) "__init__") fd [q.sn, q.pn] (spI1 K (atN l q.f)) ∧ Binds K fd [q.sn, q.pn] []) :
    Rz ⟨fxOf l K nd, l.ct, C, k, P, w, mg, base, l.tb⟩ := by
  obtain ⟨b, b1⟩ := and2 b
  obtain ⟨b, b2⟩ := and2 b
  have E := fun c hc => List.all_eq_true.mp b2 c (con_mem hc)
  refine ⟨fun c hc hx => ?_, fun c f hc hx => ?_⟩
  · obtain ⟨_, q⟩ := and2 (E c hc)
    rw [xfs_nil hx] at q
    obtain ⟨q, q1⟩ := and2 (show rz0B K (clA l K c) = true from q)
    obtain ⟨q, q2⟩ := and2 q
    obtain ⟨q3, q4⟩ := and2 q
    exact ⟨_, _, _, _, PySem.F.excBase_ValueError, q3, q4, of_decide_eq_true q2, of_decide_eq_true q1⟩
  · have hm : (xfsOf l.xin c).contains f = true := by
      have e : xfsOf l.xin c = [f] := hx
      rw [e]; simp
    obtain ⟨q, hq, rfl, rfl⟩ := xfs_mem hm
    have z := List.all_eq_true.mp b1 q hq
    obtain ⟨z, z1⟩ := and2 z
    obtain ⟨z, z2⟩ := and2 z
    obtain ⟨z, z3⟩ := and2 z
    obtain ⟨z, z4⟩ := and2 z
    obtain ⟨fd, F1, hb⟩ := xi q hq
    exact ⟨oexB_ok (and2 z).2, _, fd, q.sn, q.pn, of_decide_eq_true z2, of_decide_eq_true z1, F1, hb, of_decide_eq_true z4, of_decide_eq_true z3⟩
end
end Ev
end
section
set_option Elab.async false
set_option linter.all false
set_option maxRecDepth 100000
set_option maxHeartbeats 4000000
set_option autoImplicit false
/-! Ev, part X: lemmas to evaluate by. -/
namespace Ev
open PySem PySem.Spec PyProof.Rows L2

@[simp] theorem prim_ok' {α : Type} (a : α) (S : List O) : (R.ok a S).prim = .ok a S := rfl
@[simp] theorem prim_bad' {α : Type} : (R.bad : R α).prim = .bad := rfl
theorem prim_ite {α : Type} {c : Prop} [Decidable c] {a b : R α} : (if c then a else b).prim = if c then a.prim else b.prim := by split <;> rfl
@[simp] theorem fl_ok {α : Type} (a : α) (S : List O) (ρ : Env') (k : α → List O → Fl) : (R.ok a S).fl ρ k = k a S := rfl
@[simp] theorem fl_ex {α : Type} (x : Exn) (S : List O) (ρ : Env') (k : α → List O → Fl) : (R.ex x S).fl ρ k = .ex x ρ S := rfl
@[simp] theorem fl_bad {α : Type} (ρ : Env') (k : α → List O → Fl) : (R.bad : R α).fl ρ k = .bad := rfl
@[simp] theorem fb_nx (ρ : Env') (S : List O) (k : Env' → List O → Fl) : (Fl.nx ρ S).bind k = k ρ S := rfl
@[simp] theorem fb_rt (d : D) (S : List O) (k : Env' → List O → Fl) : (Fl.rt d S).bind k = .rt d S := rfl
@[simp] theorem fb_ex (x : Exn) (ρ : Env') (S : List O) (k : Env' → List O → Fl) : (Fl.ex x ρ S).bind k = .ex x ρ S := rfl
@[simp] theorem fb_bad (k : Env' → List O → Fl) : (Fl.bad).bind k = .bad := rfl
@[simp] theorem map_ok {α β : Type} (f : α → β) (a : α) (S : List O) : (R.ok a S).map f = .ok (f a) S := rfl
@[simp] theorem map_ex {α β : Type} (f : α → β) (a : Exn) (S : List O) : (R.ex a S).map f = .ex a S := rfl
@[simp] theorem map_bad {α β : Type} (f : α → β) : (R.bad : R α).map f = .bad := rfl
@[simp] theorem nox_nx (ρ : Env') (S : List O) : (Fl.nx ρ S).nox = .nx ρ S := rfl
@[simp] theorem nox_rt (d : D) (S : List O) : (Fl.rt d S).nox = .rt d S := rfl
/-- a def's body has run -/
def fin : Fl → R D
  | .nx _ S' => .ok .non S'
  | .rt v S' => .ok v S'
  | .ex x _ S' => .ex x S'
  | .bad => .bad
@[simp] theorem fin_nx (ρ : Env') (S : List O) : fin (.nx ρ S) = .ok .non S := rfl
@[simp] theorem fin_rt (d : D) (S : List O) : fin (.rt d S) = .ok d S := rfl
@[simp] theorem fin_ex (x : Exn) (ρ : Env') (S : List O) : fin (.ex x ρ S) = .ex x S := rfl
theorem runD_gc {t : Ct} {C : Orc} {np nn : Nat} {b : Ss} {ds : List D} {S : List O} (h : ds.length = np) :
    runD t C ⟨np, nn, false, b⟩ ds S = gcR S (fin (evSs t C b none (ds.map some ++ List.replicate (nn - ds.length) none) S)) := by
  unfold runD
  rw [if_pos h]
  show (if false = true then _ else gcR S _) = _
  rw [if_neg (by decide)]
  rfl
theorem runD_raw {t : Ct} {C : Orc} {np nn : Nat} {b : Ss} {ds : List D} {S : List O} (h : ds.length = np) :
    runD t C ⟨np, nn, true, b⟩ ds S = fin (evSs t C b none (ds.map some ++ List.replicate (nn - ds.length) none) S) := by
  unfold runD
  rw [if_pos h]
  show (if true = true then _ else gcR S _) = _
  rw [if_pos rfl]
  cases evSs t C b none (ds.map some ++ List.replicate (nn - ds.length) none) S <;> rfl

/-! ### values told as they are -/
mutual
/-- no handle within -/
def nrD : D → Bool
  | .tup ds | .lst ds | .fl ds | .ft ds | .dk _ ds | .dt _ ds | .ins _ _ ds => nrL ds
  | .ref _ => false
  | _ => true
def nrL : List D → Bool
  | [] => true
  | d :: ds => nrD d && nrL ds
end
@[simp] theorem nr_non : nrD .non = true := id rfl
@[simp] theorem nr_bl (b : Bool) : nrD (.bl b) = true := id rfl
@[simp] theorem nr_int (i : Int) : nrD (.int i) = true := id rfl
@[simp] theorem nr_str (cs : List Nat) : nrD (.str cs) = true := id rfl
@[simp] theorem nr_tup (ds : List D) : nrD (.tup ds) = nrL ds := id rfl
@[simp] theorem nr_lst (ds : List D) : nrD (.lst ds) = nrL ds := id rfl
@[simp] theorem nr_fl (ds : List D) : nrD (.fl ds) = nrL ds := id rfl
@[simp] theorem nr_ft (ds : List D) : nrD (.ft ds) = nrL ds := id rfl
@[simp] theorem nr_dk (ks : List Key) (ds : List D) : nrD (.dk ks ds) = nrL ds := id rfl
@[simp] theorem nrL_nil : nrL [] = true := id rfl
@[simp] theorem nrL_cons (d : D) (ds : List D) : nrL (d :: ds) = (nrD d && nrL ds) := id rfl
theorem nrL_all : ∀ {ds : List D}, (∀ d ∈ ds, nrD d = true) → nrL ds = true
  | [], _ => rfl
  | d :: ds, h => by rw [nrL_cons, h d List.mem_cons_self, nrL_all fun e he => h e (List.mem_cons_of_mem _ he)]; rfl
@[simp] theorem nrL_map {α : Type} {f : α → D} {xs : List α} (h : ∀ x, nrD (f x) = true) : nrL (xs.map f) = true := nrL_all fun d hd => by
  obtain ⟨x, _, rfl⟩ := List.mem_map.mp hd
  exact h x
mutual
theorem nr_cl {n : Nat} : ∀ d : D, nrD d = true → clD n d = true
  | .non, _ => rfl
  | .bl _, _ => rfl
  | .int _, _ => rfl
  | .str _, _ => rfl
  | .cls _, _ => rfl
  | .tup ds, h => nr_clL ds h
  | .lst ds, h => nr_clL ds h
  | .fl ds, h => nr_clL ds h
  | .ft ds, h => nr_clL ds h
  | .dk _ ds, h => nr_clL ds h
  | .dt _ ds, h => nr_clL ds h
  | .ins _ _ ds, h => nr_clL ds h
  | .ref _, h => nomatch h
theorem nr_clL {n : Nat} : ∀ ds : List D, nrL ds = true → clL n ds = true
  | [], _ => rfl
  | d :: ds, h => by
    obtain ⟨h1, h2⟩ := and2 (show (nrD d && nrL ds) = true from h)
    show (clD n d && clL n ds) = true
    rw [nr_cl d h1, nr_clL ds h2]; rfl
end
mutual
theorem frz_id {n : Nat} {g : Nat → Option D} (hg : ∀ m, m < n → g m = some (.ref m)) : ∀ d : D, clD n d = true → frzD g d = some d
  | .non, _ => rfl
  | .bl _, _ => rfl
  | .int _, _ => rfl
  | .str _, _ => rfl
  | .cls _, _ => rfl
  | .tup ds, h => by show (frzL g ds).map _ = _; rw [frz_idL hg ds h]; rfl
  | .lst ds, h => by show (frzL g ds).map _ = _; rw [frz_idL hg ds h]; rfl
  | .fl ds, h => by show (frzL g ds).map _ = _; rw [frz_idL hg ds h]; rfl
  | .ft ds, h => by show (frzL g ds).map _ = _; rw [frz_idL hg ds h]; rfl
  | .dk _ ds, h => by show (frzL g ds).map _ = _; rw [frz_idL hg ds h]; rfl
  | .dt _ ds, h => by show (frzL g ds).map _ = _; rw [frz_idL hg ds h]; rfl
  | .ins _ _ ds, h => by show (frzL g ds).map _ = _; rw [frz_idL hg ds h]; rfl
  | .ref m, h => hg m (of_decide_eq_true h)
theorem frz_idL {n : Nat} {g : Nat → Option D} (hg : ∀ m, m < n → g m = some (.ref m)) : ∀ ds : List D, clL n ds = true → frzL g ds = some ds
  | [], _ => rfl
  | d :: ds, h => by
    obtain ⟨h1, h2⟩ := and2 (show (clD n d && clL n ds) = true from h)
    show (frzD g d).bind _ = _
    rw [frz_id hg d h1]
    show (frzL g ds).map _ = _
    rw [frz_idL hg ds h2]; rfl
end
theorem frzN_old {n : Nat} {S : List O} : ∀ (k m : Nat), m < n → frzN n S k m = some (.ref m)
  | 0, m, h => if_pos h
  | k + 1, m, h => if_pos h
theorem gcOk_set {S S' T : List O} (hl : S'.length = S.length) (h : ∀ n, n < S.length → S'[n]? = S[n]? ∨ ∃ o, S'[n]? = some o ∧ clO S.length o = true) : gcOk S (S' ++ T) :=
  ⟨by simp [hl], fun n hn => by rw [List.getElem?_append_left (by omega)]; exact h n hn⟩
/-- what was made is left behind -/
theorem gcR_app {S S' T : List O} {d d' : D} (hl : S'.length = S.length) (h : ∀ n, n < S.length → S'[n]? = S[n]? ∨ ∃ o, S'[n]? = some o ∧ clO S.length o = true)
    (hf : frzD (frzN S.length (S' ++ T) 6) d = some d') : gcR S (.ok d (S' ++ T)) = .ok d' S' := by
  unfold gcR
  dsimp only
  rw [if_pos (gcOk_set hl h), hf]
  dsimp only
  rw [← hl, List.take_left]
theorem gcR_keep {S T : List O} {d d' : D} (hf : frzD (frzN S.length (S ++ T) 6) d = some d') : gcR S (.ok d (S ++ T)) = .ok d' S := gcR_app rfl (fun _ _ => .inl rfl) hf
theorem gcR_val {S T : List O} {d : D} (h : clD S.length d = true) : gcR S (.ok d (S ++ T)) = .ok d S := gcR_keep (frz_id (fun m hm => frzN_old 6 m hm) d h)
theorem gcR_ok {S : List O} {d : D} (h : clD S.length d = true) : gcR S (.ok d S) = .ok d S := by
  have := gcR_val (S := S) (T := []) h
  simpa using this
theorem gcR_nr {S : List O} {d : D} (h : nrD d = true) : gcR S (.ok d S) = .ok d S := gcR_ok (nr_cl d h)
@[simp] theorem gcR_bl {S : List O} {b : Bool} : gcR S (.ok (.bl b) S) = .ok (.bl b) S := gcR_nr rfl
@[simp] theorem gcR_int {S : List O} {b : Int} : gcR S (.ok (.int b) S) = .ok (.int b) S := gcR_nr rfl
@[simp] theorem gcR_str {S : List O} {b : List Nat} : gcR S (.ok (.str b) S) = .ok (.str b) S := gcR_nr rfl
@[simp] theorem gcR_non {S : List O} : gcR S (.ok .non S) = .ok .non S := gcR_nr rfl
@[simp] theorem gcR_bad {S : List O} : gcR S .bad = .bad := rfl
/-- a list made on the way -/
theorem gcR_lst {S : List O} {ds : List D} (h : clL S.length ds = true) : gcR S (.ok (.ref S.length) (S ++ [.lst ds])) = .ok (.lst ds) S := by
  refine gcR_keep ?_
  show frzN S.length (S ++ [.lst ds]) 6 S.length = _
  unfold frzN
  rw [if_neg (by omega)]
  have : (S ++ [O.lst ds])[S.length]? = some (.lst ds) := by simp
  rw [this]
  show (frzL _ ds).map _ = _
  rw [frz_idL (fun m hm => frzN_old 5 m hm) ds h]
  rfl
/-- objects of the entry changed, what was made left behind -/
theorem gcR_set {S S' T : List O} {d : D} (hl : S'.length = S.length) (h : ∀ n, n < S.length → S'[n]? = S[n]? ∨ ∃ o, S'[n]? = some o ∧ clO S.length o = true) (hd : clD S.length d = true) :
    gcR S (.ok d (S' ++ T)) = .ok d S' := gcR_app hl h (frz_id (fun m hm => frzN_old 6 m hm) d hd)
/-- an error without fields -/
@[simp] theorem gcR_ex {S : List O} {c : Nat} : gcR S (.ex ⟨c, [], []⟩ S) = .ex ⟨c, [], []⟩ S := by
  unfold gcR
  dsimp only
  rw [if_pos ⟨Nat.le_refl _, fun _ _ => .inl rfl⟩]
  show R.ex _ _ = _
  rw [List.take_length]
theorem gcR_ex1 {S : List O} {c f : Nat} {d : D} (h : clD S.length d = true) : gcR S (.ex ⟨c, [f], [d]⟩ S) = .ex ⟨c, [f], [d]⟩ S := by
  unfold gcR
  dsimp only
  rw [if_pos ⟨Nat.le_refl _, fun _ _ => .inl rfl⟩, frz_idL (n := S.length) (fun m hm => frzN_old 6 m hm) [d] (by show (clD _ d && true) = true; rw [h]; rfl)]
  show R.ex _ _ = _
  rw [List.take_length]

theorem cut_take {α : Type} {xs : List α} {p : Nat} (h : p ≤ xs.length) : cutL xs none (some (p : Int)) = xs.take p := by
  unfold cutL
  rw [HT.sIx_none, HT.sIx_nat, List.drop_zero, Nat.sub_zero, Nat.min_eq_left h]
theorem cut_drop {α : Type} {xs : List α} {p : Nat} (h : p ≤ xs.length) : cutL xs (some (p : Int)) none = xs.drop p := by
  unfold cutL
  rw [HT.sIx_none, HT.sIx_nat, Nat.min_eq_left h]
  exact List.take_of_length_le (by simp)
theorem cut_drop1 {α : Type} {xs : List α} {p : Nat} (h : p + 1 ≤ xs.length) : cutL xs (some ((p : Int) + 1)) none = xs.drop (p + 1) := cut_drop (p := p + 1) h
@[simp] theorem addD_int {i j : Int} {S : List O} : addD (.int i) (.int j) S = .ok (.int (i + j)) S := rfl
@[simp] theorem subD_int {i j : Int} {S : List O} : subD (.int i) (.int j) S = .ok (.int (i - j)) S := rfl
@[simp] theorem ordD_int {f : Int → Int → Bool} {i j : Int} {S : List O} : ordD f (.int i) (.int j) S = .ok (.bl (f i j)) S := rfl
@[simp] theorem ltD_int {i j : Int} {S : List O} : ltD (.int i) (.int j) S = .ok (.bl (decide (i < j))) S := rfl
theorem szl : sizeLine = 16777216 := by rw [sizeLine_eq]
theorem add_str {a b : List Nat} {S : List O} (h : a.length + b.length ≤ 10000) : addD (.str a) (.str b) S = .ok (.str (a ++ b)) S := by
  have : a.length + b.length ≤ sizeLine := by rw [szl]; omega
  simp [addD, this]
theorem slc_str {a : List Nat} {lo hi : Option Int} {S : List O} (h : a.length ≤ 10000) : sliceD (.str a) lo hi S = .ok (.str (cutL a lo hi)) S := by
  have : a.length ≤ sizeLine := by rw [szl]; omega
  simp [sliceD, this]
/-! ### == -/
def eqL (a b : List D) : Bool := PyData.eqvAll (pyL a) (pyL b)
@[simp] theorem eq_non : eqD .non .non = true := rfl
@[simp] theorem eq_bl (a b : Bool) : eqD (.bl a) (.bl b) = (a == b) := rfl
@[simp] theorem eq_int (i j : Int) : eqD (.int i) (.int j) = (i == j) := rfl
@[simp] theorem eq_bi (a : Bool) (j : Int) : eqD (.bl a) (.int j) = ((if a then 1 else 0) == j) := rfl
@[simp] theorem eq_ib (i : Int) (b : Bool) : eqD (.int i) (.bl b) = (i == (if b then 1 else 0)) := rfl
@[simp] theorem eq_str (a b : List Nat) : eqD (.str a) (.str b) = (a == b) := by
  show PyData.eqv (.str (mkS a)) (.str (mkS b)) = _
  show (mkS a == mkS b) = (a == b)
  by_cases h : a = b
  · subst h; simp
  · rw [beq_eq_false_iff_ne.mpr h]
    exact beq_eq_false_iff_ne.mpr fun z => h (by have := congrArg Str.cps z; simpa using this)
@[simp] theorem eq_tt (a b : List D) : eqD (.tup a) (.tup b) = eqL a b := rfl
@[simp] theorem eq_tf (a b : List D) : eqD (.tup a) (.ft b) = eqL a b := rfl
@[simp] theorem eq_ll (a b : List D) : eqD (.lst a) (.lst b) = eqL a b := rfl
@[simp] theorem eqL_nn : eqL [] [] = true := rfl
@[simp] theorem eqL_cc (a b : D) (r s : List D) : eqL (a :: r) (b :: s) = (eqD a b && eqL r s) := rfl
@[simp] theorem eqL_nc (b : D) (s : List D) : eqL [] (b :: s) = false := rfl
@[simp] theorem eqL_cn (a : D) (r : List D) : eqL (a :: r) [] = false := rfl
@[simp] theorem eq_ns (b : List Nat) : eqD .non (.str b) = false := rfl
@[simp] theorem eq_ni (b : Int) : eqD .non (.int b) = false := rfl
@[simp] theorem eq_sn (b : List Nat) : eqD (.str b) .non = false := rfl
@[simp] theorem eq_in (b : Int) : eqD (.int b) .non = false := rfl
@[simp] theorem eq_si (b : List Nat) (i : Int) : eqD (.str b) (.int i) = false := rfl
@[simp] theorem eq_is (b : List Nat) (i : Int) : eqD (.int i) (.str b) = false := rfl
@[simp] theorem eq_bs (b : List Nat) (i : Bool) : eqD (.bl i) (.str b) = false := rfl
@[simp] theorem eq_sb (b : List Nat) (i : Bool) : eqD (.str b) (.bl i) = false := rfl
@[simp] theorem eq_bn (i : Bool) : eqD (.bl i) .non = false := rfl
@[simp] theorem eq_nb (i : Bool) : eqD .non (.bl i) = false := rfl
mutual
theorem eq_self : ∀ d : D, okD d = true → eqD d d = true
  | .non, _ => rfl
  | .bl b, _ => by simp
  | .int i, _ => by simp
  | .str cs, _ => by simp
  | .tup ds, h => eqL_self ds h
  | .lst ds, h => eqL_self ds h
  | .fl ds, h => eqL_self ds h
  | .ft ds, h => eqL_self ds h
theorem eqL_self : ∀ ds : List D, okL ds = true → eqL ds ds = true
  | [], _ => rfl
  | d :: ds, h => by
    obtain ⟨h1, h2⟩ := and2 (show (okD d && okL ds) = true from h)
    rw [eqL_cc, eq_self d h1, eqL_self ds h2]; rfl
end
/-- a plain text -/
def asc (cs : List Nat) : Prop := ∀ c ∈ cs, c < 1114112
theorem ok_str {cs : List Nat} (h : asc cs) : okD (.str cs) = true := List.all_eq_true.mpr fun c hc => decide_eq_true (h c hc)
@[simp] theorem sh_non : shD .non = true := by decide
@[simp] theorem sh_bl (b : Bool) : shD (.bl b) = true := by cases b <;> decide
@[simp] theorem sh_int (i : Int) : shD (.int i) = true := rfl
theorem sh_str {cs : List Nat} (h : asc cs) : shD (.str cs) = true := by
  show (okD (.str cs) && decide _) = true
  rw [ok_str h]; rfl
/-- scalars -/
def sclD : D → Bool
  | .non | .bl _ | .int _ => true
  | .str cs => cs.all (· < 1114112)
  | _ => false
theorem scl_ok : ∀ d : D, sclD d = true → okD d = true ∧ (pyD d).depth = 0
  | .non, _ => ⟨rfl, rfl⟩
  | .bl _, _ => ⟨rfl, rfl⟩
  | .int _, _ => ⟨rfl, rfl⟩
  | .str cs, h => ⟨h, rfl⟩
theorem scl_okL : ∀ ds : List D, (∀ d ∈ ds, sclD d = true) → okL ds = true ∧ PyData.depthAll (pyL ds) = 0
  | [], _ => ⟨rfl, rfl⟩
  | d :: ds, h => by
    obtain ⟨a1, a2⟩ := scl_ok d (h d List.mem_cons_self)
    obtain ⟨b1, b2⟩ := scl_okL ds fun e he => h e (List.mem_cons_of_mem _ he)
    refine ⟨by show (okD d && okL ds) = true; rw [a1, b1]; rfl, ?_⟩
    show PyData.depthAll (pyD d :: pyL ds) = 0
    simp [PyData.depthAll, a2, b2]
theorem sh_tup {ds : List D} (h : ∀ d ∈ ds, sclD d = true) : shD (.tup ds) = true := by
  obtain ⟨a, b⟩ := scl_okL ds h
  show (okL ds && decide ((PyData.tuple (pyL ds)).depth ≤ 60)) = true
  rw [a]
  simp [PyData.depth, b]
theorem sh_lst {ds : List D} (h : ∀ d ∈ ds, sclD d = true) : shD (.lst ds) = true := by
  obtain ⟨a, b⟩ := scl_okL ds h
  show (okL ds && decide ((PyData.list (pyL ds)).depth ≤ 60)) = true
  rw [a]
  simp [PyData.depth, b]
/-! ### loops -/
/-- a comprehension whose items change nothing -/
theorem lc_pure {gd : List (Nat × List D)} {f : D → List O → R (Option D)} {g : D → Option D} {S : List O} : ∀ {its : List D} {acc : List D}, (∀ T, gdOk (S ++ T) gd) → (∀ d ∈ its, ∀ acc, f d (S ++ [.lst acc]) = .ok (g d) (S ++ [.lst acc])) → acc.length + its.length ≤ sizeLine →
    lcGo S.length gd f its (S ++ [.lst acc]) = .ok () (S ++ [.lst (acc ++ its.filterMap g)])
  | [], acc, hg, hf, hz => by
    unfold lcGo
    rw [if_pos (hg _)]
    simp
  | d :: ds, acc, hg, hf, hz => by
    unfold lcGo
    rw [if_pos (hg _), hf d List.mem_cons_self acc]
    cases hgd : g d with
    | none =>
      dsimp only
      rw [lc_pure hg (fun e he => hf e (List.mem_cons_of_mem _ he)) (by simp at hz ⊢; omega)]
      simp [hgd]
    | some x =>
      dsimp only
      have h1 : (S ++ [O.lst acc])[S.length]? = some (.lst acc) := by simp
      have h2 : (S ++ [O.lst acc]).set S.length (.lst (acc ++ [x])) = S ++ [.lst (acc ++ [x])] := by simp
      rw [h1]
      dsimp only
      rw [if_pos (by simp at hz; omega), h2, lc_pure hg (fun e he => hf e (List.mem_cons_of_mem _ he)) (by simp at hz ⊢; omega)]
      simp [hgd]
/-- .. that change things: what is wanted of each -/
theorem lc_some {gd : List (Nat × List D)} {f : D → List O → R (Option D)} {N : Nat} {Inv : List O → Prop} {P : D → Prop} (hN : ∀ S, Inv S → S.length = N) : ∀ {its : List D} {acc : List D} {S : List O}, Inv S → (∀ S T, Inv S → gdOk (S ++ T) gd) →
    (∀ d ∈ its, ∀ S acc, Inv S → ∃ x S', f d (S ++ [.lst acc]) = .ok (some x) (S' ++ [.lst acc]) ∧ Inv S' ∧ P x) → acc.length + its.length ≤ sizeLine →
    ∃ xs S', lcGo N gd f its (S ++ [.lst acc]) = .ok () (S' ++ [.lst (acc ++ xs)]) ∧ Inv S' ∧ (∀ x ∈ xs, P x) ∧ xs.length = its.length
  | [], acc, S, hi, hg, hf, hz => by
    refine ⟨[], S, ?_, hi, by simp, rfl⟩
    unfold lcGo
    rw [if_pos (hg _ _ hi)]
    simp
  | d :: ds, acc, S, hi, hg, hf, hz => by
    obtain ⟨x, S1, e1, i1, p1⟩ := hf d List.mem_cons_self S acc hi
    obtain ⟨xs, S2, e2, i2, p2, l2⟩ := lc_some hN (its := ds) (acc := acc ++ [x]) i1 hg (fun e he => hf e (List.mem_cons_of_mem _ he)) (by simp at hz ⊢; omega)
    refine ⟨x :: xs, S2, ?_, i2, fun y hy => ?_, by simp [l2]⟩
    · unfold lcGo
      rw [if_pos (hg _ _ hi), e1]
      dsimp only
      have h1 : (S1 ++ [O.lst acc])[N]? = some (.lst acc) := by rw [← hN S1 i1]; simp
      have h2 : (S1 ++ [O.lst acc]).set N (.lst (acc ++ [x])) = S1 ++ [.lst (acc ++ [x])] := by rw [← hN S1 i1]; simp
      rw [h1]
      dsimp only
      rw [if_pos (by simp at hz; omega), h2, e2]
      simp
    · rcases List.mem_cons.mp hy with rfl | hy
      · exact p1
      · exact p2 y hy
/-- a for whose turns hold Inv, or end the def with what P lets -/
theorem fr_some {gd : List (Nat × List D)} {t : T} {b : Env' → List O → Fl} {Inv : Env' → List O → Prop} {Q : Fl → Prop} : ∀ {its : List D} {ρ : Env'} {S : List O}, Inv ρ S → (∀ ρ S, Inv ρ S → gdOk S gd) →
    (∀ d ∈ its, ∀ ρ S, Inv ρ S → ∃ ρ', asT t d ρ = some ρ' ∧ ((∃ ρ2 S2, b ρ' S = .nx ρ2 S2 ∧ Inv ρ2 S2) ∨ (Q (b ρ' S) ∧ ∀ ρ2 S2, b ρ' S ≠ .nx ρ2 S2))) →
    (∃ ρ2 S2, frGo gd t b its ρ S = .nx ρ2 S2 ∧ Inv ρ2 S2) ∨ (Q (frGo gd t b its ρ S) ∧ ∀ ρ2 S2, frGo gd t b its ρ S ≠ .nx ρ2 S2)
  | [], ρ, S, hi, hg, hf => by
    refine .inl ⟨ρ, S, ?_, hi⟩
    unfold frGo
    rw [if_pos (hg _ _ hi)]
  | d :: ds, ρ, S, hi, hg, hf => by
    obtain ⟨ρ', ha, h⟩ := hf d List.mem_cons_self ρ S hi
    have e : frGo gd t b (d :: ds) ρ S = (b ρ' S).bind fun ρ'' S' => frGo gd t b ds ρ'' S' := by
      conv => lhs; unfold frGo
      rw [if_pos (hg _ _ hi), ha]
    rw [e]
    rcases h with ⟨ρ2, S2, e2, i2⟩ | ⟨q, hn⟩
    · rw [e2]
      exact fr_some (its := ds) i2 hg fun d hd => hf d (List.mem_cons_of_mem _ hd)
    · cases hb : b ρ' S with
      | nx ρ2 S2 => exact (hn _ _ hb).elim
      | rt v S2 => rw [hb] at q; exact .inr ⟨q, fun _ _ z => nomatch z⟩
      | ex y ρ2 S2 => rw [hb] at q; exact .inr ⟨q, fun _ _ z => nomatch z⟩
      | bad => rw [hb] at q; exact .inr ⟨q, fun _ _ z => nomatch z⟩
/-- a turn of a for -/
theorem fr_cons {gd : List (Nat × List D)} {t : T} {b : Env' → List O → Fl} {d : D} {ds : List D} {ρ ρ' : Env'} {S : List O} (hg : gdOk S gd) (ha : asT t d ρ = some ρ') :
    frGo gd t b (d :: ds) ρ S = (b ρ' S).bind fun ρ'' S' => frGo gd t b ds ρ'' S' := by
  conv => lhs; unfold frGo
  rw [if_pos hg, ha]
theorem fr_nil {gd : List (Nat × List D)} {t : T} {b : Env' → List O → Fl} {ρ : Env'} {S : List O} (hg : gdOk S gd) : frGo gd t b [] ρ S = .nx ρ S := by
  unfold frGo
  rw [if_pos hg]
theorem whF_mono {c : Env' → List O → R Bool} {b : Env' → List O → Fl} : ∀ {n : Nat} {ρ : Env'} {S : List O} {f : Fl}, whF c b n ρ S = some f → ∀ m, n ≤ m → whF c b m ρ S = some f
  | 0, _, _, _, h, _, _ => nomatch h
  | n + 1, ρ, S, f, h, m, hm => by
    obtain ⟨m, rfl⟩ : ∃ k, m = k + 1 := ⟨m - 1, by omega⟩
    unfold whF at h ⊢
    cases hc : c ρ S with
    | bad => rw [hc] at h; exact h
    | ex y S' => rw [hc] at h; exact h
    | ok k S' =>
      rw [hc] at h
      cases k with
      | false => exact h
      | true =>
        dsimp only at h ⊢
        cases hb : b ρ S' with
        | nx ρ2 S2 => rw [hb] at h; exact whF_mono h m (by omega)
        | rt v S2 => rw [hb] at h; exact h
        | ex y ρ2 S2 => rw [hb] at h; exact h
        | bad => rw [hb] at h; exact h
theorem whC_of {c : Env' → List O → R Bool} {b : Env' → List O → Fl} {n : Nat} {ρ : Env'} {S : List O} {f : Fl} (h : whF c b n ρ S = some f) : whC c b ρ S = f := by
  unfold whC
  have hx : ∃ n f, whF c b n ρ S = some f := ⟨n, f, h⟩
  rw [dif_pos hx]
  have h2 := Classical.choose_spec (Classical.choose_spec hx)
  have a := whF_mono h (max n (Classical.choose hx)) (Nat.le_max_left _ _)
  have b := whF_mono h2 (max n (Classical.choose hx)) (Nat.le_max_right _ _)
  rw [a] at b
  exact (Option.some.inj b).symm
/-- a call's run -/
theorem call_gc {t : Ct} {k np nn : Nat} {b : Ss} {ds : List D} {S : List O} {f : Nat} (h : t.defs f = some ⟨np, nn, false, b⟩) (hl : ds.length = np) :
    callD t (k + 1) f ds S = gcR S (fin (evSs t (callD t k) b none (ds.map some ++ List.replicate (nn - ds.length) none) S)) := by
  show (match t.defs f with
    | some d => runD t (callD t k) d ds S
    | none => .bad) = _
  rw [h]
  exact runD_gc hl
theorem call_raw {t : Ct} {k np nn : Nat} {b : Ss} {ds : List D} {S : List O} {f : Nat} (h : t.defs f = some ⟨np, nn, true, b⟩) (hl : ds.length = np) :
    callD t (k + 1) f ds S = fin (evSs t (callD t k) b none (ds.map some ++ List.replicate (nn - ds.length) none) S) := by
  show (match t.defs f with
    | some d => runD t (callD t k) d ds S
    | none => .bad) = _
  rw [h]
  exact runD_raw hl
end Ev
end
section
set_option Elab.async false
set_option linter.all false
set_option maxRecDepth 100000
set_option maxHeartbeats 4000000
set_option autoImplicit false
/-! Ev, part W: the rules to evaluate by, what comes later kept shut (`simp -dsimp`). -/
namespace Ev
open PySem PySem.Spec PyProof.Rows L2
inductive Wit {α : Type} (a : α) : Type where
  | mk
/-- shut: simp does not look into it -/
def hid {α : Type} (a : α) (_ : Wit a) : α := a
@[simp] theorem hid_ap {α β γ : Type} (f : α → β → γ) (w : Wit f) (a : α) (b : β) : hid f w a b = f a b := rfl
theorem hid_eq {α : Type} (f : α) (w : Wit f) : hid f w = f := rfl

/-- the list is done -/
def lcR (n : Nat) (r : R Unit) : R D := r.prim.bind fun _ S' => .ok (.ref n) S'
@[simp] theorem lcR_ok {n : Nat} {S : List O} : lcR n (.ok () S) = .ok (.ref n) S := rfl
noncomputable def lcE (gd : List (Nat × List D)) (g : D → List O → R (Option D)) (its : List D) (S : List O) : R D := lcR S.length (lcGo S.length gd g its (S ++ [.lst []]))
noncomputable def lc2E (gd : List (Nat × List D)) (g : D → List O → R Unit) (its : List D) (S : List O) : R D := lcR S.length (lc2Go gd g its (S ++ [.lst []]))
section
variable {t : Ct} {C : Orc} {hx : Option Exn} {ρ : Env'} {S : List O}
@[simp] theorem w_non : evE t C hx .non ρ S = .ok .non S := rfl
@[simp] theorem w_bl {b : Bool} : evE t C hx (.bl b) ρ S = .ok (.bl b) S := rfl
@[simp] theorem w_int {b : Int} : evE t C hx (.int b) ρ S = .ok (.int b) S := rfl
@[simp] theorem w_str {b : List Nat} : evE t C hx (.str b) ρ S = .ok (.str b) S := rfl
@[simp] theorem w_var {i : Nat} : evE t C hx (.var i) ρ S = (match ρ[i]? with
    | some (some d) => .ok d S
    | _ => .bad) := rfl
@[simp] theorem w_glb {g : Nat} : evE t C hx (.glb g) ρ S = .ok (t.glb g) S := rfl
@[simp] theorem w_bin {o : Operator} {a b : E} : evE t C hx (.bin o a b) ρ S = (evE t C hx a ρ S).bind (hid (fun x S => (evE t C hx b ρ S).bind (hid (fun y S => (binD o x y S).prim) .mk)) .mk) := rfl
@[simp] theorem w_neg {a : E} : evE t C hx (.neg a) ρ S = (evE t C hx a ρ S).bind (hid (fun x S => (negD x S).prim) .mk) := rfl
@[simp] theorem w_nt {a : E} : evE t C hx (.nt a) ρ S = (evE t C hx a ρ S).bind (hid (fun x S => (ntD x S).prim) .mk) := rfl
/-- and, or -/
noncomputable def andR (k : Unit → List O → R D) (x : D) (S : List O) : R D := match x with
    | .bl true => k () S
    | .bl false => .ok (.bl false) S
    | _ => .bad
noncomputable def orR (k : Unit → List O → R D) (x : D) (S : List O) : R D := match x with
    | .bl true => .ok (.bl true) S
    | .bl false => k () S
    | _ => .bad
@[simp] theorem andR_bl {k : Unit → List O → R D} {b : Bool} : andR k (.bl b) S = if b = true then k () S else .ok (.bl false) S := by cases b <;> rfl
@[simp] theorem orR_bl {k : Unit → List O → R D} {b : Bool} : orR k (.bl b) S = if b = true then .ok (.bl true) S else k () S := by cases b <;> rfl
@[simp] theorem w_and {a b : E} : evE t C hx (.and a b) ρ S = (evE t C hx a ρ S).bind (hid (fun x S => andR (hid (fun _ S => evE t C hx b ρ S) .mk) x S) .mk) := rfl
@[simp] theorem w_or {a b : E} : evE t C hx (.or a b) ρ S = (evE t C hx a ρ S).bind (hid (fun x S => orR (hid (fun _ S => evE t C hx b ρ S) .mk) x S) .mk) := rfl
@[simp] theorem w_cmp {o : CmpOp} {a b : E} : evE t C hx (.cmp o a b) ρ S = (evE t C hx a ρ S).bind (hid (fun x S => (evE t C hx b ρ S).bind (hid (fun y S => (cmpD o x y S).prim) .mk)) .mk) := rfl
@[simp] theorem w_chain {o o' : CmpOp} {a b c : E} : evE t C hx (.chain o o' a b c) ρ S = (evE t C hx a ρ S).bind (hid (fun x S => (evE t C hx b ρ S).bind (hid (fun y S => (cmpD o x y S).prim.bind (hid (fun z S => andR (hid (fun _ S => (evE t C hx c ρ S).bind (hid (fun w S => (cmpD o' y w S).prim) .mk)) .mk) z S) .mk)) .mk)) .mk) := rfl
@[simp] theorem w_ite {c a b : E} : evE t C hx (.ite c a b) ρ S = (evE t C hx c ρ S).bind (hid (fun x S => (tstD x S).bind (hid (fun k S => if k = true then evE t C hx a ρ S else evE t C hx b ρ S) .mk)) .mk) := rfl
@[simp] theorem w_tup {es : Es} : evE t C hx (.tup es) ρ S = (evEs t C hx es ρ S).bind (hid (fun ds S => if ds.length ≤ sizeLine then .ok (.tup ds) S else .bad) .mk) := rfl
@[simp] theorem w_lst {es : Es} : evE t C hx (.lst es) ρ S = (evEs t C hx es ρ S).bind (hid (fun ds S => if ds.length ≤ sizeLine then .ok (.ref S.length) (S ++ [.lst ds]) else .bad) .mk) := rfl
@[simp] theorem w_emp {k : Bool} : evE t C hx (.emp k) ρ S = .ok (.ref S.length) (S ++ [if k = true then .dT [] [] else .dK [] []]) := rfl
@[simp] theorem w_flst {es : Es} : evE t C hx (.flst es) ρ S = (evEs t C hx es ρ S).bind (hid (fun ds S => if ds.length ≤ sizeLine then .ok (.lst ds) S else .bad) .mk) := rfl
@[simp] theorem w_femp {k : Bool} : evE t C hx (.femp k) ρ S = .ok (if k = true then .dt [] [] else .dk [] []) S := rfl
@[simp] theorem w_idx {a i : E} : evE t C hx (.idx a i) ρ S = (evE t C hx a ρ S).bind (hid (fun x S => (evE t C hx i ρ S).bind (hid (fun y S => (idxD x y S).prim) .mk)) .mk) := rfl
@[simp] theorem w_slc {a : E} {lo hi : OE} : evE t C hx (.slc a lo hi) ρ S = (evE t C hx a ρ S).bind (hid (fun x S => (evO t C hx lo ρ S).bind (hid (fun l S => (evO t C hx hi ρ S).bind (hid (fun h S => (sliceD x l h S).prim) .mk)) .mk)) .mk) := rfl
@[simp] theorem w_attr {a : E} {f : Nat} : evE t C hx (.attr a f) ρ S = (evE t C hx a ρ S).bind (hid (fun x S => attrD t x f S) .mk) := rfl
@[simp] theorem w_call {f : Nat} {es : Es} : evE t C hx (.call f es) ρ S = (evEs t C hx es ρ S).bind (hid (fun ds S => C f ds S) .mk) := rfl
@[simp] theorem w_make {c : Nat} {es : Es} : evE t C hx (.make c es) ρ S = (evEs t C hx es ρ S).bind (hid (fun ds S => (match t.ini c with
    | some f => (C f (.ref S.length :: ds) (S ++ [.ins c [] []])).bind (hid (fun d S' => (match d with
      | .non => .ok (.ref S.length) S'
      | _ => .bad)) .mk)
    | none => .bad)) .mk) := rfl
@[simp] theorem w_bi {b : BI} {es : Es} : evE t C hx (.bi b es) ρ S = (evEs t C hx es ρ S).bind (hid (fun ds S => (biD b ds S).prim) .mk) := rfl
@[simp] theorem w_meth {m : MT} {o : E} {es : Es} : evE t C hx (.meth m o es) ρ S = (evE t C hx o ρ S).bind (hid (fun x S => if m.at S x = true then (evEs t C hx es ρ S).bind (hid (fun ds S => (methD m x ds S).prim) .mk) else .bad) .mk) := rfl
@[simp] theorem w_omth {m : Nat} {o : E} {es : Es} : evE t C hx (.omth m o es) ρ S = (evE t C hx o ρ S).bind (hid (fun x S => (match insOf S x with
    | some (c, fs, vs) => (match t.mth c m with
      | some f => (evEs t C hx es ρ S).bind (hid (fun ds S => C f (x :: ds) S) .mk)
      | none => .bad)
    | none => .bad)) .mk) := rfl
@[simp] theorem w_isi {a : E} {ts : List TyC} : evE t C hx (.isi a ts) ρ S = (evE t C hx a ρ S).bind (hid (fun x S => isiD t x S ts) .mk) := rfl
@[simp] theorem w_xf {f : Nat} {x : Exn} : evE t C (some x) (.xf f) ρ S = (match lookF x.fs x.vs f with
      | some d => if (t.xfs x.c).contains f = true then .ok d S else .bad
      | none => .bad) := rfl
@[simp] theorem w_xis {T : TyC} {x : Exn} : evE t C (some x) (.xis T) ρ S = (match xisB t x T with
      | some b => if x.fs = [] then .ok (.bl b) S else .bad
      | none => .bad) := rfl
@[simp] theorem w_lc {elt : E} {tg : T} {it : I} {c : OE} {vs : List Nat} : evE t C hx (.lc elt tg it c vs) ρ S = (evI t C hx it ρ S).bind (hid (fun s S => lcE s.gd (hid (fun d S' => (match asT tg d (wipeD ρ vs) with
      | some ρ' => (evC t C hx c ρ' S').bind (hid (fun k S' => if k = true then (evE t C hx elt ρ' S').map some else .ok none S') .mk)
      | none => .bad)) .mk) s.its S) .mk) := rfl
@[simp] theorem w_lc2 {elt : E} {tg : T} {it : I} {tg1 : T} {it1 : I} {vs vs1 : List Nat} : evE t C hx (.lc2 elt tg it tg1 it1 vs vs1) ρ S = (evI t C hx it ρ S).bind (hid (fun s S => lc2E s.gd (hid (fun d S' => (match asT tg d (wipeD ρ vs) with
      | some ρ' => (evI t C hx it1 ρ' S').bind (hid (fun s1 S' => lcGo S.length s1.gd (hid (fun d1 S' => (match asT tg1 d1 (wipeD ρ' vs1) with
        | some ρ'' => (evE t C hx elt ρ'' S').map some
        | none => .bad)) .mk) s1.its S') .mk)
      | none => .bad)) .mk) s.its S) .mk) := rfl
@[simp] theorem w_frz {a : E} : evE t C hx (.frz a) ρ S = gcR S (evE t C hx a ρ S) := rfl
@[simp] theorem ws_nil : evEs t C hx .nil ρ S = .ok [] S := rfl
@[simp] theorem ws_1 {e : E} : evEs t C hx (.cons e .nil) ρ S = (evE t C hx e ρ S).bind (hid (fun d S => .ok [d] S) .mk) := rfl
@[simp] theorem ws_cons {e e2 : E} {r : Es} : evEs t C hx (.cons e (.cons e2 r)) ρ S = (evE t C hx e ρ S).bind (hid (fun d S => (evEs t C hx (.cons e2 r) ρ S).bind (hid (fun ds S => .ok (d :: ds) S) .mk)) .mk) := rfl
@[simp] theorem wo_no : evO t C hx .no ρ S = .ok none S := rfl
@[simp] theorem wo_yes {e : E} : evO t C hx (.yes e) ρ S = (evE t C hx e ρ S).bind (hid (fun d S => optI d S) .mk) := rfl
@[simp] theorem wc_no : evC t C hx .no ρ S = .ok true S := rfl
@[simp] theorem wc_yes {e : E} : evC t C hx (.yes e) ρ S = (evE t C hx e ρ S).bind (hid (fun d S => tstD d S) .mk) := rfl
@[simp] theorem wi_of {e : E} : evI t C hx (.of e) ρ S = (evE t C hx e ρ S).bind (hid (fun d S => ofS d S) .mk) := rfl
@[simp] theorem wi_rng {e : E} : evI t C hx (.rng e) ρ S = (evE t C hx e ρ S).bind (hid (fun d S => rngS (.int 0) d S) .mk) := rfl
@[simp] theorem wi_rng2 {a b : E} : evI t C hx (.rng2 a b) ρ S = (evE t C hx a ρ S).bind (hid (fun x S => (evE t C hx b ρ S).bind (hid (fun y S => rngS x y S) .mk)) .mk) := rfl
@[simp] theorem wi_zip {a b : E} : evI t C hx (.zip a b) ρ S = (evE t C hx a ρ S).bind (hid (fun x S => (evE t C hx b ρ S).bind (hid (fun y S => (ofS x S).bind (hid (fun s S => (ofS y S).bind (hid (fun s' S => .ok (zipS s s') S) .mk)) .mk)) .mk)) .mk) := rfl
@[simp] theorem wi_enm {a : E} : evI t C hx (.enm a) ρ S = (evE t C hx a ρ S).bind (hid (fun x S => (ofS x S).bind (hid (fun s S => .ok (enmS s) S) .mk)) .mk) := rfl
@[simp] theorem w_tst {e : E} : tst t C hx e ρ S = (evE t C hx e ρ S).bind (hid (fun d S => tstD d S) .mk) := rfl

@[simp] theorem v_pass : evS t C .pass hx ρ S = .nx ρ S := rfl
@[simp] theorem v_doc : evS t C .doc hx ρ S = .nx ρ S := rfl
@[simp] theorem v_ret {e : E} : evS t C (.ret e) hx ρ S = (evE t C hx e ρ S).fl ρ (hid (fun d S => .rt d S) .mk) := rfl
@[simp] theorem v_retN : evS t C .retN hx ρ S = .rt .non S := rfl
@[simp] theorem v_exp {e : E} : evS t C (.exp e) hx ρ S = (evE t C hx e ρ S).fl ρ (hid (fun d S => .nx ρ S) .mk) := rfl
@[simp] theorem v_asg {g : T} {e : E} : evS t C (.asg g e) hx ρ S = (evE t C hx e ρ S).fl ρ (hid (fun d S => (match asT g d ρ with
    | some ρ' => .nx ρ' S
    | none => .bad)) .mk) := rfl
@[simp] theorem v_asgL {z : Bool} {i : Nat} {elt : E} {tg : T} {it : I} {c : OE} {vs : List Nat} : evS t C (.asgL z i elt tg it c vs) hx ρ S = (gcB z S (evE t C hx (.lc elt tg it c vs) ρ S)).fl ρ (hid (fun d S => .nx (ρ.set i (some d)) S) .mk) := rfl
@[simp] theorem v_asgL2 {z : Bool} {i : Nat} {elt : E} {tg : T} {it : I} {tg1 : T} {it1 : I} {vs vs1 : List Nat} : evS t C (.asgL2 z i elt tg it tg1 it1 vs vs1) hx ρ S = (gcB z S (evE t C hx (.lc2 elt tg it tg1 it1 vs vs1) ρ S)).fl ρ (hid (fun d S => .nx (ρ.set i (some d)) S) .mk) := rfl
@[simp] theorem v_par {i j : Nat} {a b : E} : evS t C (.par i j a b) hx ρ S = (evE t C hx a ρ S).fl ρ (hid (fun x S => (evE t C hx b ρ S).fl ρ (hid (fun y S => .nx ((ρ.set i (some x)).set j (some y)) S) .mk)) .mk) := rfl
@[simp] theorem v_asgI {o i e : E} : evS t C (.asgI o i e) hx ρ S = (evE t C hx e ρ S).fl ρ (hid (fun d S => (evE t C hx o ρ S).fl ρ (hid (fun x S => (evE t C hx i ρ S).fl ρ (hid (fun y S => (setD x y d S).prim.fl ρ (hid (fun _ S => .nx ρ S) .mk)) .mk)) .mk)) .mk) := rfl
@[simp] theorem v_asgF {o : E} {f : Nat} {e : E} : evS t C (.asgF o f e) hx ρ S = (evE t C hx e ρ S).fl ρ (hid (fun d S => (evE t C hx o ρ S).fl ρ (hid (fun x S => (setF t x f d S).fl ρ (hid (fun _ S => .nx ρ S) .mk)) .mk)) .mk) := rfl
@[simp] theorem v_aug {i : Nat} {op : Operator} {e : E} : evS t C (.aug i op e) hx ρ S = (match ρ[i]? with
    | some (some (.int a)) => (evE t C hx e ρ S).fl ρ (hid (fun d S => (match augD op a d with
      | some c => .nx (ρ.set i (some (.int c))) S
      | none => .bad)) .mk)
    | _ => .bad) := rfl
@[simp] theorem v_ife {c : E} {a b : Ss} : evS t C (.ife c a b) hx ρ S = (tst t C hx c ρ S).fl ρ (hid (fun k S => if k = true then evSs t C a hx ρ S else evSs t C b hx ρ S) .mk) := rfl
@[simp] theorem v_wh {c : E} {b : Ss} : evS t C (.wh c b) hx ρ S = whC (hid (fun ρ S => tst t C hx c ρ S) .mk) (hid (fun ρ S => evSs t C b hx ρ S) .mk) ρ S := rfl
@[simp] theorem v_fr {g : T} {it : I} {b : Ss} : evS t C (.fr g it b) hx ρ S = (evI t C hx it ρ S).fl ρ (hid (fun s S => frGo s.gd g (hid (fun ρ S => evSs t C b hx ρ S) .mk) s.its ρ S) .mk) := rfl
@[simp] theorem v_rse {c : Nat} {es : Es} : evS t C (.rse c es) hx ρ S = (evEs t C hx es ρ S).fl ρ (hid (fun ds S => if ds.length = (t.xfs c).length then .ex ⟨c, t.xfs c, ds⟩ ρ S else .bad) .mk) := rfl
/-- a try -/
noncomputable def triR (k : Exn → Env' → List O → Fl) : Fl → Fl
  | .ex x ρ S => k x ρ S
  | f => f
@[simp] theorem tri_ex {k : Exn → Env' → List O → Fl} {x : Exn} : triR k (.ex x ρ S) = k x ρ S := rfl
@[simp] theorem tri_nx {k : Exn → Env' → List O → Fl} : triR k (.nx ρ S) = .nx ρ S := rfl
@[simp] theorem tri_rt {k : Exn → Env' → List O → Fl} {d : D} : triR k (.rt d S) = .rt d S := rfl
@[simp] theorem tri_bad {k : Exn → Env' → List O → Fl} : triR k .bad = .bad := rfl
@[simp] theorem hid_ap3 {α β γ δ : Type} (f : α → β → γ → δ) (w : Wit f) (a : α) (b : β) (c : γ) : hid f w a b c = f a b c := rfl
@[simp] theorem v_tri {b : Ss} {hs : Hs} : evS t C (.tri b hs) hx ρ S = triR (hid (fun x ρ' S' => evHs t C hs x ρ' S') .mk) (evSs t C b none ρ S) := by
  show (match evSs t C b none ρ S with
    | .ex x ρ' S' => evHs t C hs x ρ' S'
    | f => f) = _
  unfold triR
  cases evSs t C b none ρ S <;> rfl
@[simp] theorem vs_nil : evSs t C .nil hx ρ S = .nx ρ S := rfl
@[simp] theorem vs_cons {s : Ev.S} {r : Ss} : evSs t C (.cons s r) hx ρ S = (evS t C s hx ρ S).bind (hid (fun ρ' S' => evSs t C r hx ρ' S') .mk) := rfl
theorem fb_id {f : Fl} : f.bind (fun ρ S => .nx ρ S) = f := by cases f <;> rfl
theorem vs_1 {s : Ev.S} : evSs t C (.cons s .nil) hx ρ S = evS t C s hx ρ S := fb_id
@[simp] theorem vh_nil {x : Exn} : evHs t C .nil x ρ S = .ex x ρ S := rfl
@[simp] theorem vh_0 {T : TyC} {b : Ss} {r : Hs} {x : Exn} : evHs t C (.cons T none b r) x ρ S = (match xisB t x T with
    | some true => (evSs t C b (some x) ρ S).nox
    | some false => evHs t C r x ρ S
    | none => .bad) := rfl
/-- the name is given up -/
def Fl.rel (i : Nat) : Fl → Fl
  | .nx ρ' S' => .nx (ρ'.set i none) S'
  | f => f
@[simp] theorem rel_nx {i : Nat} : (Fl.nx ρ S).rel i = .nx (ρ.set i none) S := rfl
@[simp] theorem rel_rt {i : Nat} {d : D} : (Fl.rt d S).rel i = .rt d S := rfl
@[simp] theorem rel_bad {i : Nat} : (Fl.bad).rel i = .bad := rfl
@[simp] theorem vh_1 {T : TyC} {b : Ss} {r : Hs} {x : Exn} {i : Nat} : evHs t C (.cons T (some i) b r) x ρ S = (match xisB t x T with
    | some true => if i < ρ.length then ((evSs t C b (some x) (ρ.set i none) S).nox).rel i else .bad
    | some false => evHs t C r x ρ S
    | none => .bad) := by
  show (match xisB t x T with
    | some true => if i < ρ.length then (match (evSs t C b (some x) (ρ.set i none) S).nox with
        | .nx ρ' S' => Fl.nx (ρ'.set i none) S'
        | f => f) else .bad
    | some false => evHs t C r x ρ S
    | none => .bad) = _
  have e : ∀ f : Fl, (match f with
        | .nx ρ' S' => Fl.nx (ρ'.set i none) S'
        | f => f) = f.rel i := fun f => by cases f <;> rfl
  rw [e]
end
end Ev
end
section
set_option Elab.async false
set_option linter.all false
set_option maxRecDepth 100000
set_option maxHeartbeats 4000000
set_option autoImplicit false
/-! Ev, part Y: lemmas to evaluate by: comprehensions by value, texts of signs. -/
namespace Ev
open PySem PySem.Spec PyProof.Rows L2

theorem beq_comm' (a b : Nat) : (a == b) = (b == a) := by
  by_cases h : a = b
  · subst h; rfl
  · have h1 : (a == b) = false := by simpa using h
    have h2 : (b == a) = false := by simpa using fun z : b = a => h z.symm
    rw [h1, h2]
theorem fm_map {α : Type} (e : α → D) (f : α → Option D) (g : D → Option D) : ∀ xs : List α, (∀ x ∈ xs, g (e x) = f x) → (xs.map e).filterMap g = xs.filterMap f
  | [], _ => rfl
  | x :: xs, h => by
    rw [List.map_cons, List.filterMap_cons, List.filterMap_cons, h x List.mem_cons_self, fm_map e f g xs fun y hy => h y (List.mem_cons_of_mem _ hy)]
theorem lc_go {α : Type} {g : D → List O → R (Option D)} {S : List O} (e : α → D) (f : α → Option D) : ∀ {xs : List α} {acc : List D}, (∀ x ∈ xs, ∀ acc, g (e x) (S ++ [.lst acc]) = .ok (f x) (S ++ [.lst acc])) → acc.length + xs.length ≤ sizeLine →
    lcGo S.length [] g (xs.map e) (S ++ [.lst acc]) = .ok () (S ++ [.lst (acc ++ xs.filterMap f)])
  | [], acc, hf, hz => by
    rw [List.map_nil]
    unfold lcGo
    rw [if_pos (show gdOk _ [] from trivial)]
    simp
  | d :: ds, acc, hf, hz => by
    rw [List.map_cons]
    unfold lcGo
    rw [if_pos (show gdOk _ [] from trivial), hf d List.mem_cons_self acc]
    cases hgd : f d with
    | none =>
      dsimp only
      rw [lc_go e f (fun e he => hf e (List.mem_cons_of_mem _ he)) (by simp at hz ⊢; omega)]
      simp [hgd]
    | some x =>
      dsimp only
      have h1 : (S ++ [O.lst acc])[S.length]? = some (.lst acc) := by simp
      have h2 : (S ++ [O.lst acc]).set S.length (.lst (acc ++ [x])) = S ++ [.lst (acc ++ [x])] := by simp
      rw [h1]
      dsimp only
      rw [if_pos (by simp at hz; omega), h2, lc_go e f (fun e he => hf e (List.mem_cons_of_mem _ he)) (by simp at hz ⊢; omega)]
      simp [hgd]
/-- [.. for x in xs if ..], by value -/
theorem lc_fm {α : Type} {S : List O} {g : D → List O → R (Option D)} {xs : List α} (e : α → D) (f : α → Option D) (h : ∀ x ∈ xs, ∀ T, g (e x) T = .ok (f x) T) (hz : xs.length ≤ 10000) (hn : ∀ x ∈ xs, ∀ d, f x = some d → nrD d = true) :
    gcR S (lcE [] g (xs.map e) S) = .ok (.lst (xs.filterMap f)) S := by
  unfold lcE
  rw [lc_go e f (fun x hx acc => h x hx _) (by simp [szl]; omega)]
  simp only [lcR_ok, List.nil_append]
  refine gcR_lst (nr_clL _ (nrL_all fun d hd => ?_))
  obtain ⟨x, hx, e2⟩ := List.mem_filterMap.mp hd
  exact hn x hx d e2
theorem lc_map {α : Type} {S : List O} {g : D → List O → R (Option D)} {xs : List α} (e : α → D) (f : α → D) (h : ∀ x ∈ xs, ∀ T, g (e x) T = .ok (some (f x)) T) (hz : xs.length ≤ 10000) (hn : ∀ x ∈ xs, nrD (f x) = true) :
    gcR S (lcE [] g (xs.map e) S) = .ok (.lst (xs.map f)) S := by
  rw [lc_fm e (fun x => some (f x)) h hz fun x hx d hd => by cases hd; exact hn x hx, List.filterMap_eq_map']
theorem lc_flt {α : Type} {S : List O} {g : D → List O → R (Option D)} {xs : List α} (e : α → D) (p : α → Bool) (f : α → D) (h : ∀ x ∈ xs, ∀ T, g (e x) T = .ok (if p x = true then some (f x) else none) T) (hz : xs.length ≤ 10000) (hn : ∀ x ∈ xs, nrD (f x) = true) :
    gcR S (lcE [] g (xs.map e) S) = .ok (.lst ((xs.filter p).map f)) S := by
  rw [lc_fm e (fun x => if p x = true then some (f x) else none) h hz fun x hx d hd => by split at hd <;> cases hd; exact hn x hx]
  congr 2
  induction xs with
  | nil => rfl
  | cons x xs ih =>
    have ih := ih (fun y hy => h y (List.mem_cons_of_mem _ hy)) (by simp at hz; omega) (fun y hy => hn y (List.mem_cons_of_mem _ hy))
    by_cases hp : p x = true
    · simp [hp, ih]
    · simp [hp, ih]
@[simp] theorem all_bls {α : Type} {S : List O} {f : α → D} {g : α → Bool} {bs : List α} (h : ∀ b, f b = .bl (g b)) : allD [.lst (bs.map f)] S = .ok (.bl (bs.all g)) S := by
  have : bs.map f = (bs.map g).map D.bl := by simp [h, Function.comp_def]
  show (match blsOf (bs.map f) with
      | some bs => R.ok (D.bl (bs.all id)) S
      | none => R.bad) = _
  rw [this, blsOf_map]
  simp
theorem len_str {cs : List Nat} {S : List O} (h : cs.length ≤ 10000) : lenD [.str cs] S = .ok (.int cs.length) S := by
  show (if cs.length ≤ sizeLine then _ else _) = _
  rw [if_pos (by rw [szl]; omega)]
@[simp] theorem len_lst {ds : List D} {S : List O} : lenD [.lst ds] S = .ok (.int ds.length) S := rfl
@[simp] theorem len_fl {ds : List D} {S : List O} : lenD [.fl ds] S = .ok (.int ds.length) S := rfl
@[simp] theorem len_tup {ds : List D} {S : List O} : lenD [.tup ds] S = .ok (.int ds.length) S := rfl
@[simp] theorem len_ft {ds : List D} {S : List O} : lenD [.ft ds] S = .ok (.int ds.length) S := rfl
/-- the ways of x == y that the model takes -/
theorem eqS_int {neg : Bool} {i j : Int} {S : List O} : eqDS neg (.int i) (.int j) S = .ok (.bl (neg != (i == j))) S := rfl
theorem eqS_str {neg : Bool} {a b : List Nat} {S : List O} (ha : asc a) (hb : asc b) : eqDS neg (.str a) (.str b) S = .ok (.bl (neg != (a == b))) S := by
  show (if (shD (.str a) && shD (.str b)) = true then R.ok (D.bl (neg != eqD (.str a) (.str b))) S else .bad) = _
  rw [sh_str ha, sh_str hb, eq_str]; rfl
theorem eqS_scl {neg : Bool} {a b : D} {S : List O} (ha : sclD a = true) (hb : sclD b = true) : eqDS neg a b S = .ok (.bl (neg != eqD a b)) S := by
  have h1 : shD a = true := by
    obtain ⟨p, q⟩ := scl_ok a ha
    show (okD a && decide _) = true
    rw [p, q]; rfl
  have h2 : shD b = true := by
    obtain ⟨p, q⟩ := scl_ok b hb
    show (okD b && decide _) = true
    rw [p, q]; rfl
  have e : eqDS neg a b S = if (shD a && shD b) = true then R.ok (D.bl (neg != eqD a b)) S else .bad := by
    cases a <;> first | rfl | (cases ha; done) | (cases b <;> first | rfl | (cases hb; done))
  rw [e, h1, h2]; rfl
@[simp] theorem gd_nil {S : List O} : gdOk S [] = True := rfl
@[simp] theorem fr_0 {t : T} {b : Env' → List O → Fl} {ρ : Env'} {S : List O} : frGo [] t b [] ρ S = .nx ρ S := fr_nil trivial
/-- a turn -/
@[simp] theorem fr_1 {t : T} {b : Env' → List O → Fl} {d : D} {ds : List D} {ρ : Env'} {S : List O} : frGo [] t b (d :: ds) ρ S = (match asT t d ρ with
    | some ρ' => (b ρ' S).bind (hid (fun ρ'' S' => frGo [] t b ds ρ'' S') .mk)
    | none => .bad) := by
  conv => lhs; unfold frGo
  rw [if_pos (show gdOk S [] from trivial)]
  rfl
theorem shl_of {m : Int} {S : List O} (h : CPow 1 m) : shlD (.int 1) (.int m) S = .ok (.int (2 ^ m.toNat)) S := by
  show (if CPow 1 m then R.ok (D.int (1 * 2 ^ m.toNat)) S else .bad) = _
  rw [if_pos h, Int.one_mul]
@[simp] theorem shl_1 {S : List O} : shlD (.int 1) (.int 1) S = .ok (.int 2) S := shl_of (by decide)
@[simp] theorem shl_2 {S : List O} : shlD (.int 1) (.int 2) S = .ok (.int 4) S := shl_of (by decide)
@[simp] theorem shl_3 {S : List O} : shlD (.int 1) (.int 3) S = .ok (.int 8) S := shl_of (by decide)
@[simp] theorem shl_4 {S : List O} : shlD (.int 1) (.int 4) S = .ok (.int 16) S := shl_of (by decide)
@[simp] theorem shl_5 {S : List O} : shlD (.int 1) (.int 5) S = .ok (.int 32) S := shl_of (by decide)
@[simp] theorem shl_6 {S : List O} : shlD (.int 1) (.int 6) S = .ok (.int 64) S := shl_of (by decide)
theorem lc2_go {α : Type} {g : D → List O → R Unit} {S : List O} (e : α → D) (f : α → List D) : ∀ {xs : List α} {acc : List D}, (∀ x ∈ xs, ∀ acc, acc.length + (f x).length ≤ 100000 → g (e x) (S ++ [.lst acc]) = .ok () (S ++ [.lst (acc ++ f x)])) → acc.length + (xs.flatMap f).length ≤ 100000 →
    lc2Go [] g (xs.map e) (S ++ [.lst acc]) = .ok () (S ++ [.lst (acc ++ xs.flatMap f)])
  | [], acc, hf, hz => by
    rw [List.map_nil]
    unfold lc2Go
    rw [if_pos (show gdOk _ [] from trivial)]
    simp
  | d :: ds, acc, hf, hz => by
    rw [List.map_cons]
    unfold lc2Go
    rw [List.flatMap_cons, List.length_append] at hz
    rw [if_pos (show gdOk _ [] from trivial), hf d List.mem_cons_self acc (by omega)]
    dsimp only
    rw [lc2_go e f (fun e he => hf e (List.mem_cons_of_mem _ he)) (by simp only [List.length_append]; omega)]
    simp
/-- [.. for x in xs for y in ys], by value -/
theorem lc2_val {α : Type} {S : List O} {g : D → List O → R Unit} {xs : List α} (e : α → D) (f : α → List D) (h : ∀ x ∈ xs, ∀ acc, acc.length + (f x).length ≤ 100000 → g (e x) (S ++ [.lst acc]) = .ok () (S ++ [.lst (acc ++ f x)])) (hz : (xs.flatMap f).length ≤ 100000) (hn : ∀ x ∈ xs, ∀ d ∈ f x, nrD d = true) :
    gcR S (lc2E [] g (xs.map e) S) = .ok (.lst (xs.flatMap f)) S := by
  unfold lc2E
  rw [lc2_go e f h (by simpa using hz)]
  simp only [lcR_ok, List.nil_append]
  refine gcR_lst (nr_clL _ (nrL_all fun d hd => ?_))
  obtain ⟨x, hx, e2⟩ := List.mem_flatMap.mp hd
  exact hn x hx d e2
/-- for x in xs: if p x: return v x -/
theorem fr_find {α : Type} {t : T} {b : Env' → List O → Fl} {S : List O} {I : Env' → Prop} (e : α → D) (p : α → Bool) (v : α → D) : ∀ {xs : List α} {ρ : Env'}, I ρ →
    (∀ x ∈ xs, ∀ ρ, I ρ → ∃ ρ', asT t (e x) ρ = some ρ' ∧ (p x = true → b ρ' S = .rt (v x) S) ∧ (p x = false → ∃ ρ2, b ρ' S = .nx ρ2 S ∧ I ρ2)) →
    (∃ x, xs.find? p = some x ∧ frGo [] t b (xs.map e) ρ S = .rt (v x) S) ∨ (xs.find? p = none ∧ ∃ ρ2, frGo [] t b (xs.map e) ρ S = .nx ρ2 S ∧ I ρ2)
  | [], ρ, hi, h => .inr ⟨rfl, ρ, fr_0, hi⟩
  | x :: xs, ρ, hi, h => by
    obtain ⟨ρ', ha, h1, h2⟩ := h x List.mem_cons_self ρ hi
    rw [List.map_cons, fr_1, ha]
    dsimp only
    cases hp : p x with
    | true => exact .inl ⟨x, by simp [hp], by rw [h1 hp]; rfl⟩
    | false =>
      obtain ⟨ρ2, h3, h4⟩ := h2 hp
      rw [h3, List.find?_cons_of_neg (by simp [hp])]
      exact fr_find e p v h4 fun y hy => h y (List.mem_cons_of_mem _ hy)
/-- a for that runs through: what it holds moves on -/
theorem fr_fold {α β : Type} {t : T} {b : Env' → List O → Fl} {S : List O} (e : α → D) (J : β → Env' → Prop) (f : β → α → β) : ∀ {xs : List α} {ρ : Env'} {z : β}, J z ρ →
    (∀ ys x zs, xs = ys ++ x :: zs → ∀ ρ, J (ys.foldl f z) ρ → ∃ ρ' ρ2, asT t (e x) ρ = some ρ' ∧ b ρ' S = .nx ρ2 S ∧ J (f (ys.foldl f z) x) ρ2) →
    ∃ ρ2, frGo [] t b (xs.map e) ρ S = .nx ρ2 S ∧ J (xs.foldl f z) ρ2
  | [], ρ, z, hi, h => ⟨ρ, fr_0, hi⟩
  | x :: xs, ρ, z, hi, h => by
    obtain ⟨ρ', ρ2, ha, h1, h2⟩ := h [] x xs rfl ρ hi
    obtain ⟨ρ3, h3, h4⟩ := fr_fold (b := b) (t := t) (S := S) e J f (xs := xs) h2 fun ys y zs hy ρ hj => h (x :: ys) y zs (by rw [hy]; rfl) ρ hj
    refine ⟨ρ3, ?_, h4⟩
    rw [List.map_cons, fr_1, ha]
    dsimp only
    rw [h1]
    exact h3
theorem fr_foldK {α β : Type} {t : T} {b : Env' → List O → Fl} {k : Env' → List O → Fl} {S : List O} {P : Fl → Prop} (e : α → D) (J : β → Env' → Prop) (f : β → α → β) {xs : List α} {ρ : Env'} {z : β} (h0 : J z ρ)
    (h : ∀ ys x zs, xs = ys ++ x :: zs → ∀ ρ, J (ys.foldl f z) ρ → ∃ ρ' ρ2, asT t (e x) ρ = some ρ' ∧ b ρ' S = .nx ρ2 S ∧ J (f (ys.foldl f z) x) ρ2)
    (hk : ∀ ρ2, J (xs.foldl f z) ρ2 → P (k ρ2 S)) : P ((frGo [] t b (xs.map e) ρ S).bind k) := by
  obtain ⟨ρ2, h1, h2⟩ := fr_fold e J f h0 h
  rw [h1]
  exact hk ρ2 h2
theorem fr_findK {α : Type} {t : T} {b : Env' → List O → Fl} {k : Env' → List O → Fl} {S : List O} {P : Fl → Prop} (e : α → D) (I : Env' → Prop) (p : α → Bool) (v : α → D) {xs : List α} {ρ : Env'} (h0 : I ρ)
    (h : ∀ x ∈ xs, ∀ ρ, I ρ → ∃ ρ', asT t (e x) ρ = some ρ' ∧ (p x = true → b ρ' S = .rt (v x) S) ∧ (p x = false → ∃ ρ2, b ρ' S = .nx ρ2 S ∧ I ρ2))
    (h1 : ∀ x, xs.find? p = some x → P (.rt (v x) S)) (h2 : xs.find? p = none → ∀ ρ2, I ρ2 → P (k ρ2 S)) : P ((frGo [] t b (xs.map e) ρ S).bind k) := by
  rcases fr_find e p v h0 h with ⟨x, e1, e2⟩ | ⟨e1, ρ2, e2, e3⟩
  · rw [e2]; exact h1 x e1
  · rw [e2]; exact h2 e1 ρ2 e3
theorem find_any {α : Type} {p : α → Bool} {xs : List α} {x : α} (h : xs.find? p = some x) : xs.any p = true := List.any_eq_true.mpr ⟨x, List.mem_of_find?_eq_some h, List.find?_some h⟩
theorem find_no {α : Type} {p : α → Bool} {xs : List α} (h : xs.find? p = none) : xs.any p = false := by
  rw [List.find?_eq_none] at h
  exact List.any_eq_false.mpr fun r hr => by simpa using h r hr
theorem enm_zip {α : Type} (e : α → D) : ∀ (xs : List α) (i : Nat), enmL i (xs.map e) = (xs.zipIdx i).map fun p => .tup [.int (p.2 : Nat), e p.1]
  | [], _ => rfl
  | x :: xs, i => by
    show D.tup [.int (i : Nat), e x] :: enmL (i + 1) (xs.map e) = _
    rw [enm_zip e xs (i + 1), List.zipIdx_cons, List.map_cons]
@[simp] theorem tup_lst {ds : List D} {S : List O} : tupleD [.lst ds] S = .ok (.tup ds) S := rfl
theorem at_nat {α : Type} {xs : List α} {n : Nat} (h : n < xs.length) : atI xs (n : Int) = some xs[n] := by
  have : ixN xs.length (n : Int) = some n := by
    unfold ixN
    simp [h]
  unfold atI
  simp [this, h]
/-- the sign at a place -/
def gt (cs : List Nat) (n : Nat) : Nat := cs.getD n 0
theorem gt_get {cs : List Nat} {n : Nat} (h : n < cs.length) : gt cs n = cs[n] := by
  unfold gt
  rw [List.getD_eq_getElem?_getD, List.getElem?_eq_getElem h]; rfl
theorem gt_mem {cs : List Nat} {n : Nat} (h : n < cs.length) : gt cs n ∈ cs := by
  rw [gt_get h]; exact List.getElem_mem h
theorem idx_str {cs : List Nat} {n : Nat} {S : List O} (hz : cs.length ≤ 10000) (h : n < cs.length) : idxD (.str cs) (.int (n : Int)) S = .ok (.str [gt cs n]) S := by
  show (if cs.length ≤ sizeLine then (match atI cs n with
    | some c => R.ok (D.str [c]) S
    | none => .bad) else .bad) = _
  rw [if_pos (by rw [szl]; omega), at_nat h, gt_get h]
theorem gcR_lm {α : Type} {S : List O} {f : α → D} {xs : List α} (h : ∀ x, nrD (f x) = true) : gcR S (.ok (.lst (xs.map f)) S) = .ok (.lst (xs.map f)) S := gcR_nr (nrL_map h)
theorem gcR_tm {α : Type} {S : List O} {f : α → D} {xs : List α} (h : ∀ x, nrD (f x) = true) : gcR S (.ok (.tup (xs.map f)) S) = .ok (.tup (xs.map f)) S := gcR_nr (nrL_map h)
end Ev
end
section
set_option Elab.async false
set_option linter.all false
set_option maxRecDepth 100000
set_option maxHeartbeats 4000000
set_option autoImplicit false
/-! Ev, part Z: lemmas to evaluate by: dicts by handle, loops that change the store. -/
namespace Ev
open PySem PySem.Spec PyProof.Rows L2
section
variable {S : List O} {n : Nat} {ks : List Key} {vs : List D} (h : S[n]? = some (.dK ks vs))
include h
theorem in_dK {neg : Bool} {cs : List Nat} : inDS neg (.str cs) (.ref n) S = .ok (.bl (neg != (lookK ks vs (.inr (mkS cs))).isSome)) S := by
  simp [inDS, seqOf, rdL, listOf, dGet, dkOf, keyD, h]
theorem idx_dK {cs : List Nat} {w : D} (hw : lookK ks vs (.inr (mkS cs)) = some w) : idxD (.ref n) (.str cs) S = .ok w S := by
  simp [idxD, seqOf, rdL, listOf, dGet, dkOf, keyD, h, hw]
theorem set_dK {cs : List Nat} {w : D} (hz : ks.length ≤ 100000) : setD (.ref n) (.str cs) w S = .ok () (S.set n (.dK (putKs ks (.inr (mkS cs))) (putVs ks vs (.inr (mkS cs)) w))) := by
  have : ks.length < sizeLine := by rw [szl]; omega
  simp [setD, keyD, h, this]
end
theorem lookK_none {κ : Type} [DecidableEq κ] : ∀ {ks : List κ} {vs : List D} {k : κ}, ks.length = vs.length → (k ∈ ks ↔ (lookK ks vs k).isSome = true)
  | [], _, k, _ => by simp [lookK]
  | a :: ks, [], k, h => by simp at h
  | a :: ks, b :: vs, k, h => by
    unfold lookK
    by_cases e : a = k
    · simp [e]
    · rw [if_neg e, ← lookK_none (ks := ks) (vs := vs) (by simpa using h)]
      simp [Ne.symm e]
theorem lookK_app {κ : Type} [DecidableEq κ] : ∀ {ks : List κ} {vs : List D} {k k2 : κ} {d : D}, ks.length = vs.length → k ∉ ks → lookK (ks ++ [k]) (vs ++ [d]) k2 = if k = k2 then some d else lookK ks vs k2
  | [], [], k, k2, d, _, _ => by simp [lookK]
  | [], _ :: _, _, _, _, h, _ => by simp at h
  | a :: ks, [], k, k2, d, h, _ => by simp at h
  | a :: ks, b :: vs, k, k2, d, h, hn => by
    show (if a = k2 then some b else lookK (ks ++ [k]) (vs ++ [d]) k2) = if k = k2 then some d else (if a = k2 then some b else lookK ks vs k2)
    rw [lookK_app (by simpa using h) (fun z => hn (List.mem_cons_of_mem _ z))]
    by_cases e : a = k2
    · subst e
      have : ¬ k = a := fun z => hn (by rw [z]; simp)
      simp [this]
    · simp [e]
theorem lookK_set_ne {κ : Type} [DecidableEq κ] : ∀ {ks : List κ} {vs : List D} {k k2 : κ} {d : D}, ks.length = vs.length → k ≠ k2 → lookK ks (setK ks vs k d) k2 = lookK ks vs k2
  | [], _, k, k2, d, _, _ => by simp [lookK]
  | a :: ks, [], k, k2, d, h, _ => by simp at h
  | a :: ks, b :: vs, k, k2, d, h, hm => by
    have ih := lookK_set_ne (ks := ks) (vs := vs) (k := k) (k2 := k2) (d := d) (by simpa using h) hm
    unfold setK
    by_cases e : a = k
    · subst e
      rw [if_pos rfl]
      unfold lookK
      rw [ih, if_neg hm, if_neg hm]
    · rw [if_neg e]
      unfold lookK
      rw [ih]
theorem lookK_set {κ : Type} [DecidableEq κ] {ks : List κ} {vs : List D} {k k2 : κ} {d : D} (h : ks.length = vs.length) (hm : k ∈ ks) : lookK ks (setK ks vs k d) k2 = if k = k2 then some d else lookK ks vs k2 := by
  by_cases e : k = k2
  · subst e
    rw [if_pos rfl]
    revert h hm
    induction ks generalizing vs with
    | nil => intro _ hm; cases hm
    | cons a ks ih =>
      intro h hm
      cases vs with
      | nil => simp at h
      | cons b vs =>
        unfold setK
        by_cases e : a = k
        · subst e; simp [lookK]
        · rw [if_neg e]
          unfold lookK
          rw [if_neg e]
          refine ih (by simpa using h) ?_
          rcases List.mem_cons.mp hm with z | z
          · exact absurd z.symm e
          · exact z
  · rw [if_neg e, lookK_set_ne h e]
theorem setK_length {κ : Type} [DecidableEq κ] : ∀ {ks : List κ} {vs : List D} {k : κ} {d : D}, ks.length = vs.length → (setK ks vs k d).length = vs.length
  | [], [], _, _, _ => rfl
  | [], _ :: _, _, _, h => by simp at h
  | a :: ks, [], _, _, h => by simp at h
  | a :: ks, b :: vs, k, d, h => by
    unfold setK
    split
    · simp [setK_length (ks := ks) (vs := vs) (by simpa using h)]
    · simp [setK_length (ks := ks) (vs := vs) (by simpa using h)]
theorem look_put {κ : Type} [DecidableEq κ] {ks : List κ} {vs : List D} {k k2 : κ} {d : D} (h : ks.length = vs.length) : lookK (putKs ks k) (putVs ks vs k d) k2 = if k = k2 then some d else lookK ks vs k2 := by
  unfold putKs putVs
  by_cases hm : k ∈ ks
  · rw [if_pos hm, if_pos hm]; exact lookK_set h hm
  · rw [if_neg hm, if_neg hm]; exact lookK_app h hm
theorem put_len_eq {κ : Type} [DecidableEq κ] {ks : List κ} {vs : List D} {k : κ} {d : D} (h : ks.length = vs.length) : (putKs ks k).length = (putVs ks vs k d).length := by
  unfold putKs putVs
  by_cases hm : k ∈ ks
  · rw [if_pos hm, if_pos hm, setK_length h, h]
  · rw [if_neg hm, if_neg hm]; simp [h]
theorem put_len_le {κ : Type} [DecidableEq κ] {ks : List κ} {k : κ} : (putKs ks k).length ≤ ks.length + 1 := by
  unfold putKs
  split <;> simp
theorem nr_set {κ : Type} [DecidableEq κ] : ∀ {ks : List κ} {vs : List D} {k : κ} {d : D}, nrL vs = true → nrD d = true → nrL (setK ks vs k d) = true
  | [], _, _, _, _, _ => by simp [setK]
  | a :: ks, [], _, _, _, _ => by simp [setK]
  | a :: ks, b :: vs, k, d, h, hd => by
    obtain ⟨h1, h2⟩ := and2 (show (nrD b && nrL vs) = true from h)
    unfold setK
    split
    · rw [nrL_cons, hd, nr_set h2 hd]; rfl
    · rw [nrL_cons, h1, nr_set h2 hd]; rfl
theorem nrL_app {a b : List D} : nrL (a ++ b) = (nrL a && nrL b) := by
  induction a with
  | nil => rfl
  | cons x a ih => rw [List.cons_append, nrL_cons, nrL_cons, ih, Bool.and_assoc]
theorem nr_put {κ : Type} [DecidableEq κ] {ks : List κ} {vs : List D} {k : κ} {d : D} (h : nrL vs = true) (hd : nrD d = true) : nrL (putVs ks vs k d) = true := by
  unfold putVs
  split
  · exact nr_set h hd
  · rw [nrL_app, h, nrL_cons, hd]; rfl
/-- a for that runs through and changes the store -/
theorem fr_foldS {α β : Type} {t : T} {b : Env' → List O → Fl} (e : α → D) (J : β → Env' → List O → Prop) (f : β → α → β) : ∀ {xs : List α} {ρ : Env'} {S : List O} {z : β}, J z ρ S →
    (∀ ys x zs, xs = ys ++ x :: zs → ∀ ρ S, J (ys.foldl f z) ρ S → ∃ ρ' ρ2 S2, asT t (e x) ρ = some ρ' ∧ b ρ' S = .nx ρ2 S2 ∧ J (f (ys.foldl f z) x) ρ2 S2) →
    ∃ ρ2 S2, frGo [] t b (xs.map e) ρ S = .nx ρ2 S2 ∧ J (xs.foldl f z) ρ2 S2
  | [], ρ, S, z, hi, h => ⟨ρ, S, fr_0, hi⟩
  | x :: xs, ρ, S, z, hi, h => by
    obtain ⟨ρ', ρ2, S2, ha, h1, h2⟩ := h [] x xs rfl ρ S hi
    obtain ⟨ρ3, S3, h3, h4⟩ := fr_foldS (b := b) (t := t) e J f (xs := xs) h2 fun ys y zs hy ρ S hj => h (x :: ys) y zs (by rw [hy]; rfl) ρ S hj
    refine ⟨ρ3, S3, ?_, h4⟩
    rw [List.map_cons, fr_1, ha]
    dsimp only
    rw [h1]
    exact h3
theorem fr_foldSK {α β : Type} {t : T} {b : Env' → List O → Fl} {k : Env' → List O → Fl} {S : List O} {P : Fl → Prop} (e : α → D) (J : β → Env' → List O → Prop) (f : β → α → β) {xs : List α} {ρ : Env'} {z : β} (h0 : J z ρ S)
    (h : ∀ ys x zs, xs = ys ++ x :: zs → ∀ ρ S, J (ys.foldl f z) ρ S → ∃ ρ' ρ2 S2, asT t (e x) ρ = some ρ' ∧ b ρ' S = .nx ρ2 S2 ∧ J (f (ys.foldl f z) x) ρ2 S2)
    (hk : ∀ ρ2 S2, J (xs.foldl f z) ρ2 S2 → P (k ρ2 S2)) : P ((frGo [] t b (xs.map e) ρ S).bind k) := by
  obtain ⟨ρ2, S2, h1, h2⟩ := fr_foldS e J f h0 h
  rw [h1]
  exact hk ρ2 S2 h2
/-- what was stored and only one object changed -/
theorem gcR_one {S T : List O} {n : Nat} {o : O} {d : D} (hd : clD S.length d = true) (ho : clO S.length o = true) (hn : n < S.length) : gcR S (.ok d (S.set n o ++ T)) = .ok d (S.set n o) := by
  refine gcR_set (by simp) (fun m hm => ?_) hd
  by_cases e : n = m
  · subst e
    exact .inr ⟨o, by simp [hn], ho⟩
  · exact .inl (by simp [e])
/-- [.. for x in xs ..], xs a stored list -/
theorem lc_goG {α : Type} {gd : List (Nat × List D)} {g : D → List O → R (Option D)} {S : List O} (e : α → D) (f : α → Option D) (hg : ∀ acc, gdOk (S ++ [.lst acc]) gd) : ∀ {xs : List α} {acc : List D}, (∀ x ∈ xs, ∀ acc, g (e x) (S ++ [.lst acc]) = .ok (f x) (S ++ [.lst acc])) → acc.length + xs.length ≤ sizeLine →
    lcGo S.length gd g (xs.map e) (S ++ [.lst acc]) = .ok () (S ++ [.lst (acc ++ xs.filterMap f)])
  | [], acc, hf, hz => by
    rw [List.map_nil]
    unfold lcGo
    rw [if_pos (hg _)]
    simp
  | d :: ds, acc, hf, hz => by
    rw [List.map_cons]
    unfold lcGo
    rw [if_pos (hg _), hf d List.mem_cons_self acc]
    cases hgd : f d with
    | none =>
      dsimp only
      rw [lc_goG e f hg (fun e he => hf e (List.mem_cons_of_mem _ he)) (by simp at hz ⊢; omega)]
      simp [hgd]
    | some x =>
      dsimp only
      have h1 : (S ++ [O.lst acc])[S.length]? = some (.lst acc) := by simp
      have h2 : (S ++ [O.lst acc]).set S.length (.lst (acc ++ [x])) = S ++ [.lst (acc ++ [x])] := by simp
      rw [h1]
      dsimp only
      rw [if_pos (by simp at hz; omega), h2, lc_goG e f hg (fun e he => hf e (List.mem_cons_of_mem _ he)) (by simp at hz ⊢; omega)]
      simp [hgd]
theorem lc_mapG {α : Type} {S : List O} {n : Nat} {ds : List D} {g : D → List O → R (Option D)} {xs : List α} (e : α → D) (f : α → D) (hs : S[n]? = some (.lst ds)) (h : ∀ x ∈ xs, ∀ T, g (e x) T = .ok (some (f x)) T) (hz : xs.length ≤ 10000) (hn : ∀ x ∈ xs, nrD (f x) = true) :
    gcR S (lcE [(n, ds)] g (xs.map e) S) = .ok (.lst (xs.map f)) S := by
  have hlt : n < S.length := by
    rcases Nat.lt_or_ge n S.length with h | h
    · exact h
    · rw [List.getElem?_eq_none h] at hs; cases hs
  unfold lcE
  rw [lc_goG e (fun x => some (f x)) (fun acc => by
    show (match (S ++ [O.lst acc])[n]? with
      | some (.lst es) => es = ds
      | _ => False) ∧ True
    rw [List.getElem?_append_left hlt, hs]
    exact ⟨rfl, trivial⟩) (fun x hx acc => h x hx _) (by simp [szl]; omega)]
  simp only [lcR_ok, List.nil_append]
  rw [List.filterMap_eq_map']
  refine gcR_lst (nr_clL _ (nrL_all fun d hd => ?_))
  obtain ⟨x, hx, rfl⟩ := List.mem_map.mp hd
  exact hn x hx
theorem mkS_inj {a b : List Nat} (h : mkS a = mkS b) : a = b := by have := congrArg Str.cps h; simpa using this
theorem get_lt {S : List O} {n : Nat} {o : O} (h : S[n]? = some o) : n < S.length := by
  rcases Nat.lt_or_ge n S.length with h2 | h2
  · exact h2
  · rw [List.getElem?_eq_none h2] at h; cases h
theorem app_lst {S : List O} {n : Nat} {ds : List D} {w : D} (h : S[n]? = some (.lst ds)) (hz : ds.length ≤ 100000) : methD .append (.ref n) [w] S = .ok .non (S.set n (.lst (ds ++ [w]))) := by
  have : ds.length < sizeLine := by rw [szl]; omega
  show (match S[n]? with
      | some (.lst ds) => if ds.length < sizeLine then R.ok D.non (S.set n (.lst (ds ++ [w]))) else .bad
      | _ => .bad) = _
  rw [h]
  dsimp only
  rw [if_pos this]
theorem at_app {S : List O} {n : Nat} {ds : List D} (h : S[n]? = some (.lst ds)) : MT.at .append S (.ref n) = true := by
  show (rdL S (.ref n)).isSome = true
  simp [rdL, listOf, h]
theorem ne_lst {S : List O} {n : Nat} {ds : List D} (h : S[n]? = some (.lst ds)) : eqDS true (.ref n) (.lst []) S = .ok (.bl (!ds.isEmpty)) S := by
  have h1 : listOf S (.ref n) = some ds := by simp [listOf, h]
  have h2 : listOf S (.lst []) = some [] := rfl
  unfold eqDS
  rw [h1, h2]
  cases ds with
  | nil => rfl
  | cons d ds => rfl
@[simp] theorem min_lst {a : Int} {S : List O} {xs : List D} {ns : List Int} (h : intsOf xs = some (a :: ns)) : minD [.lst xs] S = .ok (.int (minL a ns)) S := by
  simp [minD, rdL, listOf, h]
@[simp] theorem max_lst {a : Int} {S : List O} {xs : List D} {ns : List Int} (h : intsOf xs = some (a :: ns)) : maxD [.lst xs] S = .ok (.int (maxL a ns)) S := by
  simp [maxD, rdL, listOf, h]
theorem ints_map {α : Type} {f : α → D} {g : α → Int} (h : ∀ x, f x = .int (g x)) (xs : List α) : intsOf (xs.map f) = some (xs.map g) := by
  have : xs.map f = (xs.map g).map D.int := by simp [h, Function.comp_def]
  rw [this, intsOf_map]
theorem srcOf_ref {S : List O} {n : Nat} {ds : List D} (h : S[n]? = some (.lst ds)) : srcOf S (.ref n) = some ⟨ds, [(n, ds)]⟩ := by
  simp [srcOf, h]
theorem fb_asc {f : Fl} {k1 k2 : Env' → List O → Fl} : (f.bind k1).bind k2 = f.bind (hid (fun ρ S => (k1 ρ S).bind k2) .mk) := by cases f <;> rfl
section
variable {S : List O} {n : Nat} (hn : n < S.length) (a b x y : O)
include hn
theorem st_get : (S.set n a ++ [x])[n]? = some a := by
  rw [List.getElem?_append_left (by simpa using hn)]
  simp [hn]
theorem st_set : (S.set n a ++ [x]).set n b = S.set n b ++ [x] := by
  rw [List.set_append_left _ _ (by simpa using hn), List.set_set]
end
theorem st_top {S : List O} {n : Nat} (a x : O) : (S.set n a ++ [x])[S.length]? = some x := by
  rw [List.getElem?_append_right (by simp)]
  simp
theorem st_put {S : List O} {n : Nat} (a x y : O) : (S.set n a ++ [x]).set S.length y = S.set n a ++ [y] := by
  rw [List.set_append_right _ _ (by simp)]
  simp
theorem set_id {S : List O} {n : Nat} {o : O} (h : S[n]? = some o) : S.set n o = S := by
  refine List.ext_getElem? fun i => ?_
  rw [List.getElem?_set]
  split
  · rename_i e
    subst e
    rw [if_pos (get_lt h), h]
  · rfl
theorem foldl_snoc {α : Type} (ys : List α) : ∀ z : List α, ys.foldl (fun z p => z ++ [p]) z = z ++ ys := by
  induction ys with
  | nil => intro z; simp
  | cons y ys ih => intro z; rw [List.foldl_cons, ih]; simp
theorem put_put {κ : Type} [DecidableEq κ] {ks : List κ} {k : κ} : putKs (putKs ks k) k = putKs ks k := by
  have h : k ∈ putKs ks k := by
    unfold putKs
    split
    · assumption
    · simp
  show (if k ∈ putKs ks k then putKs ks k else putKs ks k ++ [k]) = putKs ks k
  rw [if_pos h]
@[simp] theorem idx_t20 {a b : D} {S : List O} : idxD (.tup [a, b]) (.int 0) S = .ok a S := rfl
@[simp] theorem idx_t21 {a b : D} {S : List O} : idxD (.tup [a, b]) (.int 1) S = .ok b S := rfl
@[simp] theorem idx_t30 {a b c : D} {S : List O} : idxD (.tup [a, b, c]) (.int 0) S = .ok a S := rfl
@[simp] theorem idx_t31 {a b c : D} {S : List O} : idxD (.tup [a, b, c]) (.int 1) S = .ok b S := rfl
@[simp] theorem idx_t32 {a b c : D} {S : List O} : idxD (.tup [a, b, c]) (.int 2) S = .ok c S := rfl
end Ev
end
section
set_option Elab.async false
set_option linter.all false
set_option maxRecDepth 100000
set_option maxHeartbeats 4000000
set_option autoImplicit false
/-! Ev, part U: lemmas to evaluate by: what lies on top of a store, remembered values. -/
namespace Ev
open PySem PySem.Spec PyProof.Rows L2
@[simp] theorem top_get0 {S T : List O} : (S ++ T)[S.length]? = T[0]? := by rw [List.getElem?_append_right (Nat.le_refl _), Nat.sub_self]
@[simp] theorem top_get {S T : List O} {j : Nat} : (S ++ T)[S.length + j]? = T[j]? := by
  rw [List.getElem?_append_right (by omega), Nat.add_sub_cancel_left]
@[simp] theorem top_set0 {S T : List O} {x : O} : (S ++ T).set S.length x = S ++ T.set 0 x := by
  rw [List.set_append_right _ _ (Nat.le_refl _), Nat.sub_self]
@[simp] theorem top_set {S T : List O} {x : O} {j : Nat} : (S ++ T).set (S.length + j) x = S ++ T.set j x := by
  rw [List.set_append_right _ _ (by omega), Nat.add_sub_cancel_left]
theorem low_get {S T : List O} {n : Nat} {o : O} (h : S[n]? = some o) : (S ++ T)[n]? = some o := by
  rw [List.getElem?_append_left (get_lt h)]; exact h
theorem low_set {S T : List O} {n : Nat} {o p : O} (h : S[n]? = some o) : (S ++ T).set n p = S.set n p ++ T := List.set_append_left _ _ (get_lt h)
theorem top_app {S T : List O} {ds : List D} {w : D} {j : Nat} (h : T[j]? = some (.lst ds)) (hz : ds.length ≤ 100000) : methD .append (.ref (S.length + j)) [w] (S ++ T) = .ok .non (S ++ T.set j (.lst (ds ++ [w]))) := by
  rw [app_lst (by rw [top_get]; exact h) hz, top_set]
/-! ### lists without doubles -/
theorem nodup_len {α : Type} [DecidableEq α] : ∀ {xs ys : List α}, xs.Nodup → (∀ x ∈ xs, x ∈ ys) → xs.length ≤ ys.length
  | [], _, _, _ => Nat.zero_le _
  | x :: xs, ys, hn, hs => by
    obtain ⟨h1, h2⟩ := List.nodup_cons.mp hn
    have hx := hs x List.mem_cons_self
    have : xs.length ≤ (ys.erase x).length := nodup_len h2 fun y hy => by
      have hne : y ≠ x := fun z => by subst z; exact h1 hy
      exact (List.mem_erase_of_ne hne).mpr (hs y (List.mem_cons_of_mem _ hy))
    rw [List.length_erase_of_mem hx] at this
    have hp := List.length_pos_of_mem hx
    simp; omega
theorem nodup_put {κ : Type} [DecidableEq κ] {ks : List κ} {k : κ} (h : ks.Nodup) : (putKs ks k).Nodup := by
  unfold putKs
  split
  · exact h
  · rename_i hn
    rw [List.nodup_append]
    refine ⟨h, by simp, fun a ha b hb => ?_⟩
    simp at hb; subst hb; rintro rfl; exact hn ha
theorem mem_put {κ : Type} [DecidableEq κ] {ks : List κ} {k a : κ} (h : a ∈ putKs ks k) : a ∈ ks ∨ a = k := by
  unfold putKs at h
  split at h
  · exact .inl h
  · simpa using h
/-! ### what is remembered: keys from U, values by val -/
structure Mem {κ : Type} [DecidableEq κ] (U : List κ) (val : κ → D) (ks : List κ) (vs : List D) : Prop where
  len : ks.length = vs.length
  nr : nrL vs = true
  nd : ks.Nodup
  sub : ∀ k ∈ ks, k ∈ U
  val : ∀ k w, lookK ks vs k = some w → w = val k
section
variable {κ : Type} [DecidableEq κ] {U : List κ} {val : κ → D} {ks : List κ} {vs : List D}
theorem Mem.nil : Mem U val [] [] := ⟨rfl, rfl, by simp, by simp, fun _ _ h => nomatch h⟩
theorem Mem.le (h : Mem U val ks vs) : ks.length ≤ U.length := nodup_len h.nd h.sub
theorem Mem.put (h : Mem U val ks vs) {k : κ} {w : D} (hk : k ∈ U) (hw : nrD w = true) (e : w = val k) : Mem U val (putKs ks k) (putVs ks vs k w) := by
  refine ⟨put_len_eq h.len, nr_put h.nr hw, nodup_put h.nd, fun a ha => ?_, fun k2 w2 h2 => ?_⟩
  · rcases mem_put ha with ha | rfl
    · exact h.sub a ha
    · exact hk
  · rw [look_put h.len] at h2
    split at h2
    · rename_i e2
      cases h2
      rw [e, e2]
    · exact h.val k2 w2 h2
theorem Mem.put2 (h : Mem U val ks vs) {k : κ} {w0 w : D} (hk : k ∈ U) (h0 : nrD w0 = true) (hw : nrD w = true) (e : w = val k) : Mem U val (putKs (putKs ks k) k) (putVs (putKs ks k) (putVs ks vs k w0) k w) := by
  have l1 := put_len_eq (k := k) (d := w0) h.len
  refine ⟨put_len_eq l1, nr_put (nr_put h.nr h0) hw, nodup_put (nodup_put h.nd), fun a ha => ?_, fun k2 w2 h2 => ?_⟩
  · rcases mem_put ha with ha | rfl
    · rcases mem_put ha with ha | rfl
      · exact h.sub a ha
      · exact hk
    · exact hk
  · rw [look_put l1] at h2
    split at h2
    · rename_i e2
      cases h2
      rw [e, e2]
    · rename_i e2
      rw [look_put h.len, if_neg e2] at h2
      exact h.val k2 w2 h2
theorem Mem.got (h : Mem U val ks vs) {k : κ} {w : D} : lookK (putKs ks k) (putVs ks vs k w) k = some w := by rw [look_put h.len, if_pos rfl]
end
/-- a text's key -/
abbrev kS (cs : List Nat) : Key := .inr (mkS cs)
/-- all texts of so many of some signs -/
def words (al : List Nat) : Nat → List (List Nat)
  | 0 => [[]]
  | n + 1 => (words al n).flatMap fun w => al.map fun c => c :: w
theorem words_len (al : List Nat) : ∀ n, (words al n).length = al.length ^ n
  | 0 => rfl
  | n + 1 => by
    have ih := words_len al n
    have : ∀ ws : List (List Nat), (ws.flatMap fun w => al.map fun c => c :: w).length = ws.length * al.length := fun ws => by
      induction ws with
      | nil => simp
      | cons w ws ih => rw [List.flatMap_cons, List.length_append, ih, List.length_map, List.length_cons, Nat.add_mul]; omega
    show (List.flatMap _ (words al n)).length = _
    rw [this, ih, Nat.pow_succ]
theorem words_mem {al : List Nat} : ∀ {w : List Nat}, (∀ c ∈ w, c ∈ al) → w ∈ words al w.length
  | [], _ => by simp [words]
  | c :: w, h => by
    show c :: w ∈ List.flatMap _ (words al w.length)
    exact List.mem_flatMap.mpr ⟨w, words_mem fun d hd => h d (List.mem_cons_of_mem _ hd), List.mem_map.mpr ⟨c, h c List.mem_cons_self, rfl⟩⟩
/-- keys of words -/
def wordKs (al : List Nat) (n : Nat) : List Key := (words al n).map kS
theorem wordKs_len (al : List Nat) (n : Nat) : (wordKs al n).length = al.length ^ n := by unfold wordKs; rw [List.length_map, words_len]
theorem wordKs_mem {al w : List Nat} {n : Nat} (h : ∀ c ∈ w, c ∈ al) (hl : w.length = n) : kS w ∈ wordKs al n := List.mem_map.mpr ⟨w, by subst hl; exact words_mem h, rfl⟩
/-! ### a body in pieces -/
def Ss.hd : Ss → Ev.S
  | .cons s _ => s
  | .nil => .pass
def Ss.tl : Ss → Ss
  | .cons _ r => r
  | .nil => .nil
def Ss.dr : Nat → Ss → Ss
  | 0, b => b
  | n + 1, b => (b.dr n).tl
def Ss.lth : Ss → Nat
  | .cons _ r => r.lth + 1
  | .nil => 0
/-- the first statement, then the rest -/
theorem cut {t : Ct} {C : Orc} {hx : Option Exn} {ρ : Env'} {S : List O} (b : Ss) : evSs t C b hx ρ S = (evS t C b.hd hx ρ S).bind fun ρ S => evSs t C b.tl hx ρ S := by
  cases b with
  | nil => rfl
  | cons s r => rfl
/-! ### comprehensions that change one stored thing -/
theorem gcR_lset {S : List O} {n : Nat} {o : O} {ds : List D} (hn : n < S.length) (ho : clO S.length o = true) (h : clL S.length ds = true) : gcR S (.ok (.ref S.length) (S.set n o ++ [.lst ds])) = .ok (.lst ds) (S.set n o) := by
  refine gcR_app (by simp) (fun m hm => ?_) ?_
  · by_cases e : n = m
    · subst e
      exact .inr ⟨o, by simp [hn], ho⟩
    · exact .inl (by simp [e])
  · show frzN S.length (S.set n o ++ [.lst ds]) 6 S.length = _
    unfold frzN
    rw [if_neg (by omega)]
    have : (S.set n o ++ [O.lst ds])[S.length]? = some (.lst ds) := by
      rw [List.getElem?_append_right (by simp)]; simp
    rw [this]
    show (frzL _ ds).map _ = _
    rw [frz_idL (fun m hm => frzN_old 5 m hm) ds h]
    rfl
theorem lcGo_rel {α : Type} {S : List O} {n : Nat} {g : D → List O → R (Option D)} {Q : O → Prop} (e : α → D) (P : α → D → Prop) (hn : n < S.length) : ∀ {xs : List α} {acc : List D} {o : O}, Q o → (∀ x ∈ xs, ∀ o acc, Q o → ∃ o' y, g (e x) (S.set n o ++ [.lst acc]) = .ok (some y) (S.set n o' ++ [.lst acc]) ∧ Q o' ∧ P x y) → acc.length + xs.length ≤ sizeLine →
    ∃ o' ys, lcGo S.length [] g (xs.map e) (S.set n o ++ [.lst acc]) = .ok () (S.set n o' ++ [.lst (acc ++ ys)]) ∧ Q o' ∧ ys.length = xs.length ∧ ∀ p ∈ xs.zip ys, P p.1 p.2
  | [], acc, o, hq, h, hz => ⟨o, [], by
      rw [List.map_nil]
      unfold lcGo
      rw [if_pos (show gdOk _ [] from trivial), List.append_nil], hq, rfl, by simp⟩
  | x :: xs, acc, o, hq, h, hz => by
    obtain ⟨o1, y, e1, q1, p1⟩ := h x List.mem_cons_self o acc hq
    obtain ⟨o2, ys, e2, q2, l2, p2⟩ := lcGo_rel (xs := xs) (acc := acc ++ [y]) e P hn q1 (fun z hz => h z (List.mem_cons_of_mem _ hz)) (by simp at hz ⊢; omega)
    refine ⟨o2, y :: ys, ?_, q2, by simp [l2], ?_⟩
    · rw [List.map_cons]
      unfold lcGo
      rw [if_pos (show gdOk _ [] from trivial), e1]
      dsimp only
      have h1 : (S.set n o1 ++ [O.lst acc])[S.length]? = some (.lst acc) := st_top _ _
      rw [h1]
      dsimp only
      rw [if_pos (by simp at hz; omega), st_put, e2]
      simp
    · intro q hq
      rw [List.zip_cons_cons] at hq
      rcases List.mem_cons.mp hq with rfl | hq
      · exact p1
      · exact p2 q hq
/-- [.. for x in xs], the thing at n being changed on the way -/
theorem lcE_rel {α : Type} {S : List O} {n : Nat} {o : O} {g : D → List O → R (Option D)} {Q : O → Prop} {xs : List α} (e : α → D) (P : α → D → Prop) (hs : S[n]? = some o) (h0 : Q o) (hQ : ∀ o, Q o → clO S.length o = true) (h : ∀ x ∈ xs, ∀ o acc, Q o → ∃ o' y, g (e x) (S.set n o ++ [.lst acc]) = .ok (some y) (S.set n o' ++ [.lst acc]) ∧ Q o' ∧ P x y) (hz : xs.length ≤ 10000) (hv : ∀ x ∈ xs, ∀ y, P x y → nrD y = true) :
    ∃ o' ys, gcR S (lcE [] g (xs.map e) S) = .ok (.lst ys) (S.set n o') ∧ Q o' ∧ ys.length = xs.length ∧ ∀ p ∈ xs.zip ys, P p.1 p.2 := by
  have hn := get_lt hs
  obtain ⟨o', ys, e1, q1, l1, p1⟩ := lcGo_rel (acc := []) e P hn h0 h (by rw [szl]; simp; omega)
  refine ⟨o', ys, ?_, q1, l1, p1⟩
  unfold lcE
  rw [set_id hs] at e1
  rw [e1, lcR_ok, List.nil_append]
  refine gcR_lset hn (hQ _ q1) (nr_clL _ (nrL_all fun d hd => ?_))
  obtain ⟨i, hi, rfl⟩ := List.mem_iff_getElem.mp hd
  have := p1 (xs[i]'(by omega), ys[i]) (by
    rw [List.mem_iff_getElem]
    exact ⟨i, by simp; omega, by simp⟩)
  exact hv _ (List.getElem_mem _) _ this
theorem lcE_map {α : Type} {S : List O} {n : Nat} {o : O} {g : D → List O → R (Option D)} {Q : O → Prop} {xs : List α} (e : α → D) (v : α → D) (hs : S[n]? = some o) (h0 : Q o) (hQ : ∀ o, Q o → clO S.length o = true) (h : ∀ x ∈ xs, ∀ o acc, Q o → ∃ o', g (e x) (S.set n o ++ [.lst acc]) = .ok (some (v x)) (S.set n o' ++ [.lst acc]) ∧ Q o') (hz : xs.length ≤ 10000) (hv : ∀ x ∈ xs, nrD (v x) = true) :
    ∃ o', gcR S (lcE [] g (xs.map e) S) = .ok (.lst (xs.map v)) (S.set n o') ∧ Q o' := by
  obtain ⟨o', ys, e1, q1, l1, p1⟩ := lcE_rel e (fun x y => y = v x) hs h0 hQ (fun x hx o acc hq => by
    obtain ⟨o', a, b⟩ := h x hx o acc hq
    exact ⟨o', _, a, b, rfl⟩) hz (fun x hx y hy => by subst hy; exact hv x hx)
  have : ys = xs.map v := by
    refine List.ext_getElem (by simp [l1]) fun i h1 h2 => ?_
    have := p1 (xs[i]'(by omega), ys[i]) (by
      rw [List.mem_iff_getElem]
      exact ⟨i, by simp; omega, by simp⟩)
    simpa using this
  subst this
  exact ⟨o', e1, q1⟩
/-- == of tuples of plain things -/
theorem eqS_tt {neg : Bool} {a b : List D} {S : List O} (ha : ∀ d ∈ a, sclD d = true) (hb : ∀ d ∈ b, sclD d = true) : eqDS neg (.tup a) (.tup b) S = .ok (.bl (neg != eqL a b)) S := by
  show (if a = [] ∨ b = [] then R.ok (D.bl (neg != (a.length == b.length))) S else if (shD (.tup a) && shD (.tup b)) = true then .ok (.bl (neg != eqD (.tup a) (.tup b))) S else .bad) = _
  rw [sh_tup ha, sh_tup hb]
  cases a with
  | nil => cases b <;> simp
  | cons x a => cases b <;> simp
theorem eqS_ll {neg : Bool} {a b : List D} {S : List O} (ha : ∀ d ∈ a, sclD d = true) (hb : ∀ d ∈ b, sclD d = true) : eqDS neg (.lst a) (.lst b) S = .ok (.bl (neg != eqL a b)) S := by
  show (if a.length ≠ b.length then R.ok (D.bl neg) S else if (shD (.lst a) && shD (.lst b)) = true then .ok (.bl (neg != eqD (.lst a) (.lst b))) S else .bad) = _
  rw [sh_lst ha, sh_lst hb]
  by_cases h : a.length = b.length
  · simp [h]
  · have : eqL a b = false := by
      revert b
      induction a with
      | nil => intro b _ h; cases b with
        | nil => exact absurd rfl h
        | cons y b => rfl
      | cons x a ih => intro b hb h; cases b with
        | nil => rfl
        | cons y b =>
          rw [eqL_cc, ih (fun d hd => ha d (List.mem_cons_of_mem _ hd)) (fun d hd => hb d (List.mem_cons_of_mem _ hd)) (by simpa using h)]
          simp
    simp [h, this]
@[simp] theorem eqL_ints (a b : List Int) : eqL (a.map D.int) (b.map D.int) = (a == b) := by
  revert b
  induction a with
  | nil => intro b; cases b <;> rfl
  | cons x a ih => intro b; cases b with
    | nil => rfl
    | cons y b => rw [List.map_cons, List.map_cons, eqL_cc, ih, eq_int]; rfl
theorem minL_snoc (a b : Int) : ∀ r : List Int, minL a (r ++ [b]) = if b < minL a r then b else minL a r := fun r => by
  induction r generalizing a with
  | nil => rfl
  | cons c r ih => show minL _ (r ++ [b]) = _; rw [ih]; rfl
theorem maxL_snoc (a b : Int) : ∀ r : List Int, maxL a (r ++ [b]) = if b > maxL a r then b else maxL a r := fun r => by
  induction r generalizing a with
  | nil => rfl
  | cons c r ih => show maxL _ (r ++ [b]) = _; rw [ih]; rfl
/-- the least so far, None at first -/
def minO : List Int → D
  | [] => .non
  | a :: r => .int (minL a r)
def maxO : List Int → D
  | [] => .non
  | a :: r => .int (maxL a r)
@[simp] theorem min_2 {i j : Int} {S : List O} : minD [.int i, .int j] S = .ok (.int (if j < i then j else i)) S := rfl
@[simp] theorem max_2 {i j : Int} {S : List O} : maxD [.int i, .int j] S = .ok (.int (if j > i then j else i)) S := rfl
theorem rngL_map (lo : Int) : ∀ n : Nat, rngL lo n = (List.range n).map fun i => D.int (lo + (i : Nat))
  | 0 => rfl
  | n + 1 => by
    show D.int lo :: rngL (lo + 1) n = _
    rw [rngL_map (lo + 1) n, List.range_succ_eq_map, List.map_cons, List.map_map]
    simp [Function.comp_def, Int.add_assoc, Int.add_comm 1]
theorem rng_0 {n : Nat} {S : List O} (h : n ≤ 100000) : rngS (.int 0) (.int (n : Nat)) S = .ok ⟨(List.range n).map fun i => D.int (i : Nat), []⟩ S := by
  show (if inR 0 ∧ inR (n : Int) then R.ok (Src.mk (rngL 0 ((n : Int) - 0).toNat) []) S else .bad) = _
  have : inR (n : Int) := by unfold inR; omega
  rw [if_pos ⟨by decide, this⟩, rngL_map]
  simp
@[simp] theorem srcOf_str {S : List O} {cs : List Nat} : srcOf S (.str cs) = some ⟨cs.map fun c => .str [c], []⟩ := rfl
@[simp] theorem srcOf_lst {S : List O} {ds : List D} : srcOf S (.lst ds) = some ⟨ds, []⟩ := rfl
@[simp] theorem srcOf_fl {S : List O} {ds : List D} : srcOf S (.fl ds) = some ⟨ds, []⟩ := rfl
@[simp] theorem srcOf_tup {S : List O} {ds : List D} : srcOf S (.tup ds) = some ⟨ds, []⟩ := rfl
@[simp] theorem srcOf_ft {S : List O} {ds : List D} : srcOf S (.ft ds) = some ⟨ds, []⟩ := rfl
@[simp] theorem ofS_of {S : List O} {d : D} : ofS d S = (match srcOf S d with
  | some s => .ok s S
  | none => .bad) := rfl
/-! ### sorted -/
theorem alike_nats : ∀ a b : List Nat, PySem.W.alikeAll (pyL (a.map fun p => D.int (p : Nat))) (pyL (b.map fun p => D.int (p : Nat))) = true
  | [], _ => by simp [pyL, PySem.W.alikeAll]
  | x :: a, [] => by simp [pyL, PySem.W.alikeAll]
  | x :: a, y :: b => by
    show PySem.W.alikeAll (PyData.int x :: pyL (a.map fun p => D.int (p : Nat))) (PyData.int y :: pyL (b.map fun p => D.int (p : Nat))) = true
    rw [PySem.W.alikeAll, alike_nats a b]
    rfl
/-- a tuple of places -/
def tupI (ps : List Nat) : D := .tup (ps.map fun p => .int (p : Nat))
theorem sh_tupI (ps : List Nat) : shD (tupI ps) = true := sh_tup fun d hd => by
  obtain ⟨p, _, rfl⟩ := List.mem_map.mp hd
  rfl
theorem ok_tupI (ps : List Nat) : okD (tupI ps) = true := (Bool.and_eq_true_iff.mp (sh_tupI ps)).1
theorem depth_tupI (ps : List Nat) : (pyD (tupI ps)).depth ≤ 1 := by
  have := (scl_okL (ps.map fun p => D.int (p : Nat)) fun d hd => by
    obtain ⟨p, _, rfl⟩ := List.mem_map.mp hd
    rfl).2
  show (PyData.tuple (pyL (ps.map fun p => D.int (p : Nat)))).depth ≤ 1
  simp [PyData.depth, this]
theorem alike_tupI (a b : List Nat) : PySem.W.alike (pyD (tupI a)) (pyD (tupI b)) = true := by
  show PySem.W.alike (.tuple (pyL _)) (.tuple (pyL _)) = true
  rw [PySem.W.alike]
  exact alike_nats a b
@[simp] theorem nr_tupI (ps : List Nat) : nrD (tupI ps) = true := nrL_map fun _ => rfl
theorem srt_of {ds : List D} (h1 : ∀ d ∈ ds, shD d = true) (h2 : ∀ d ∈ ds, ∀ e ∈ ds, PySem.W.alike (pyD d) (pyD e) = true) (h3 : (∀ d ∈ ds, neTupB (pyD d) = true) ∨ (∀ d ∈ ds, othB (pyD d) = true) ∨ ((∃ r, ds = .tup [] :: r) ∧ ∀ d ∈ ds, isTupB (pyD d) = true)) : srtB ds = true := by
  unfold srtB
  have e1 : (ds.all fun d => shD d) = true := List.all_eq_true.mpr h1
  have e2 : (ds.all fun d => ds.all fun e => PySem.W.alike (pyD d) (pyD e)) = true := List.all_eq_true.mpr fun d hd => List.all_eq_true.mpr (h2 d hd)
  rw [e1, e2]
  rcases h3 with h3 | h3 | ⟨⟨r, rfl⟩, h3⟩
  · rw [List.all_eq_true.mpr h3]; rfl
  · rw [List.all_eq_true.mpr h3]; simp
  · rw [List.all_eq_true.mpr h3]
    show (true && true && (_ || _ || (true && true))) = true
    simp
theorem srt_map {α : Type} {f : α → D} {xs : List α} {S : List O} (h : srtB (xs.map f) = true) (hz : xs.length ≤ 100000) : sortedD [.lst (xs.map f)] S = .ok (.lst ((xs.mergeSort fun a b => leD (f a) (f b)).map f)) S := by
  show (if srtB (xs.map f) = true ∧ (xs.map f).length ≤ sizeLine then R.ok (D.lst ((xs.map f).mergeSort leD)) S else .bad) = _
  rw [if_pos ⟨h, by rw [szl]; simp; omega⟩, merge_map f leD xs]
theorem leD_total : PySem.W.TotalLe leD := PySem.W.sortLe_total (listOrd itemOrd) false fun d : D => PySem.W.keyToks (pyD d)
theorem sort_map_pw {α : Type} (f : α → D) (xs : List α) : (xs.mergeSort fun a b => leD (f a) (f b)).Pairwise fun a b => leD (f a) (f b) = true :=
  PySem.W.sort_pairwise (le := fun a b => leD (f a) (f b)) ⟨fun a b c h1 h2 => leD_total.trans (f a) (f b) (f c) h1 h2, fun a b => leD_total.total (f a) (f b)⟩ xs
theorem sort_map_mem {α : Type} {f : α → D} {xs : List α} {x : α} : x ∈ (xs.mergeSort fun a b => leD (f a) (f b)) ↔ x ∈ xs := (List.mergeSort_perm xs _).mem_iff
theorem add_tup {a b : List D} {S : List O} (h : a.length + b.length ≤ 100000) : addD (.tup a) (.tup b) S = .ok (.tup (a ++ b)) S := by
  show (if a.length + b.length ≤ sizeLine then R.ok (D.tup (a ++ b)) S else .bad) = _
  rw [if_pos (by rw [szl]; omega)]
theorem add_lst {a b : List D} {S : List O} (h : a.length + b.length ≤ 100000) : addD (.lst a) (.lst b) S = .ok (.lst (a ++ b)) S := by
  show (if a.length + b.length ≤ sizeLine then R.ok (D.lst (a ++ b)) S else .bad) = _
  rw [if_pos (by rw [szl]; omega)]
/-! ### loops told by what holds behind a turn -/
/-- it goes on, with .. -/
def Nx (J : Env' → List O → Prop) (f : Fl) : Prop := ∃ ρ S, f = .nx ρ S ∧ J ρ S
theorem Nx.mk {J : Env' → List O → Prop} {ρ : Env'} {S : List O} (h : J ρ S) : Nx J (.nx ρ S) := ⟨ρ, S, rfl, h⟩
theorem fr_N {α β : Type} {t : T} {b : Env' → List O → Fl} {gd : List (Nat × List D)} (e : α → D) (J : β → Env' → List O → Prop) (f : β → α → β) (hg : ∀ z ρ S, J z ρ S → gdOk S gd) : ∀ {xs : List α} {ρ : Env'} {S : List O} {z : β}, J z ρ S →
    (∀ ys x zs, xs = ys ++ x :: zs → ∀ ρ S, J (ys.foldl f z) ρ S → ∃ ρ', asT t (e x) ρ = some ρ' ∧ Nx (J (f (ys.foldl f z) x)) (b ρ' S)) →
    Nx (J (xs.foldl f z)) (frGo gd t b (xs.map e) ρ S)
  | [], ρ, S, z, hi, h => by rw [List.map_nil, fr_nil (hg z ρ S hi)]; exact ⟨_, _, rfl, hi⟩
  | x :: xs, ρ, S, z, hi, h => by
    obtain ⟨ρ', ha, ρ2, S2, h1, h2⟩ := h [] x xs rfl ρ S hi
    obtain ⟨ρ3, S3, h3, h4⟩ := fr_N (b := b) (t := t) e J f hg (xs := xs) h2 fun ys y zs hy ρ S hj => h (x :: ys) y zs (by rw [hy]; rfl) ρ S hj
    refine ⟨ρ3, S3, ?_, h4⟩
    rw [List.map_cons, fr_cons (hg z ρ S hi) ha, h1]
    exact h3
/-- a for that runs through, then the rest -/
theorem fr_NK {α β : Type} {t : T} {b : Env' → List O → Fl} {k : Env' → List O → Fl} {S : List O} {P : Fl → Prop} (e : α → D) (J : β → Env' → List O → Prop) (f : β → α → β) {xs : List α} {ρ : Env'} {z : β} (h0 : J z ρ S)
    (h : ∀ ys x zs, xs = ys ++ x :: zs → ∀ ρ S, J (ys.foldl f z) ρ S → ∃ ρ', asT t (e x) ρ = some ρ' ∧ Nx (J (f (ys.foldl f z) x)) (b ρ' S))
    (hk : ∀ ρ2 S2, J (xs.foldl f z) ρ2 S2 → P (k ρ2 S2)) : P ((frGo [] t b (xs.map e) ρ S).bind k) := by
  obtain ⟨ρ2, S2, h1, h2⟩ := fr_N (gd := []) e J f (fun _ _ _ _ => trivial) h0 h
  rw [h1]
  exact hk ρ2 S2 h2
/-- .. that may end the def -/
theorem fr_X {α : Type} {t : T} {b : Env' → List O → Fl} {k : Env' → List O → Fl} {gd : List (Nat × List D)} {P : Fl → Prop} (e : α → D) (J : List α → Env' → List O → Prop) (hg : ∀ z ρ S, J z ρ S → gdOk S gd) : ∀ {xs ys : List α} {ρ : Env'} {S : List O}, J ys ρ S →
    (∀ us x vs, xs = us ++ x :: vs → ∀ ρ S, J (ys ++ us) ρ S → ∃ ρ', asT t (e x) ρ = some ρ' ∧ (Nx (J (ys ++ us ++ [x])) (b ρ' S) ∨ (P (b ρ' S) ∧ ∀ ρ2 S2, b ρ' S ≠ .nx ρ2 S2))) →
    (∀ ρ2 S2, J (ys ++ xs) ρ2 S2 → P (k ρ2 S2)) → P ((frGo gd t b (xs.map e) ρ S).bind k)
  | [], ys, ρ, S, hi, h, hk => by rw [List.map_nil, fr_nil (hg _ ρ S hi)]; exact hk ρ S (by rw [List.append_nil]; exact hi)
  | x :: xs, ys, ρ, S, hi, h, hk => by
    obtain ⟨ρ', ha, h1⟩ := h [] x xs rfl ρ S (by rw [List.append_nil]; exact hi)
    rw [List.map_cons, fr_cons (hg _ ρ S hi) ha]
    rcases h1 with ⟨ρ2, S2, h1, h2⟩ | ⟨h1, h2⟩
    · rw [h1, fb_nx]
      rw [List.append_nil] at h2
      refine fr_X e J hg (ys := ys ++ [x]) h2 (fun us y vs hy ρ S hj => ?_) (fun ρ2 S2 hj => hk ρ2 S2 (by simpa using hj))
      have := h (x :: us) y vs (by rw [hy]; rfl) ρ S (by simpa using hj)
      simpa using this
    · cases hb : b ρ' S with
      | nx ρ2 S2 => exact absurd hb (h2 _ _)
      | rt d S2 => rw [hb] at h1; exact h1
      | ex y ρ2 S2 => rw [hb] at h1; exact h1
      | bad => rw [hb] at h1; exact h1
/-- .. its value being r -/
theorem lcE_res {α : Type} {S : List O} {n : Nat} {o : O} {g : D → List O → R (Option D)} {its : List D} {r : R D} (hr : gcR S (lcE [] g its S) = r) {Q : O → Prop} {xs : List α} (e : α → D) (v : α → D) (hi : its = xs.map e) (hs : S[n]? = some o) (h0 : Q o) (hQ : ∀ o, Q o → clO S.length o = true) (h : ∀ x ∈ xs, ∀ o acc, Q o → ∃ o', g (e x) (S.set n o ++ [.lst acc]) = .ok (some (v x)) (S.set n o' ++ [.lst acc]) ∧ Q o') (hz : xs.length ≤ 10000) (hv : ∀ x ∈ xs, nrD (v x) = true) :
    ∃ o', r = .ok (.lst (xs.map v)) (S.set n o') ∧ Q o' := by
  subst hr hi
  exact lcE_map e v hs h0 hQ h hz hv
theorem lcE_resP {α : Type} {S : List O} {n : Nat} {o : O} {g : D → List O → R (Option D)} {its : List D} {r : R D} (hr : gcR S (lcE [] g its S) = r) {Q : O → Prop} {xs : List α} (e : α → D) (P : α → D → Prop) (hi : its = xs.map e) (hs : S[n]? = some o) (h0 : Q o) (hQ : ∀ o, Q o → clO S.length o = true) (h : ∀ x ∈ xs, ∀ o acc, Q o → ∃ o' y, g (e x) (S.set n o ++ [.lst acc]) = .ok (some y) (S.set n o' ++ [.lst acc]) ∧ Q o' ∧ P x y) (hz : xs.length ≤ 10000) (hv : ∀ x ∈ xs, ∀ y, P x y → nrD y = true) :
    ∃ o' ys, r = .ok (.lst ys) (S.set n o') ∧ Q o' ∧ ys.length = xs.length ∧ ∀ p ∈ xs.zip ys, P p.1 p.2 := by
  subst hr hi
  exact lcE_rel e P hs h0 hQ h hz hv
/-- a stored memory -/
def MemO (U : List Key) (val : Key → D) (o : O) : Prop := ∃ ks vs, o = .dK ks vs ∧ Mem U val ks vs
theorem MemO.cl {U : List Key} {val : Key → D} {o : O} (h : MemO U val o) (n : Nat) : clO n o = true := by
  obtain ⟨ks, vs, rfl, hm⟩ := h
  exact nr_clL _ hm.nr
theorem MemO.nil {U : List Key} {val : Key → D} : MemO U val (.dK [] []) := ⟨[], [], rfl, Mem.nil⟩
theorem MemO.put {U : List Key} {val : Key → D} {ks : List Key} {vs : List D} (h : Mem U val ks vs) {k : Key} {w : D} (hk : k ∈ U) (hw : nrD w = true) (e : w = val k) : MemO U val (.dK (putKs ks k) (putVs ks vs k w)) := ⟨_, _, rfl, h.put hk hw e⟩
def keyL : Key → List Nat
  | .inr s => s.cps.toList
  | .inl _ => []
@[simp] theorem keyL_kS (cs : List Nat) : keyL (.inr (mkS cs)) = cs := by simp [keyL]
theorem nat_sz {n : Nat} (h : n ≤ 100000) : (n ≤ sizeLine) = True := by rw [szl]; exact eq_true (by omega)
theorem shut {α : Sort _} (J : α) : ∃ K, K = J := ⟨_, rfl⟩
/-- a comprehension that changes nothing, its value being r -/
theorem lc_resV {α : Type} {S : List O} {g : D → List O → R (Option D)} {its : List D} {r : R D} (hr : gcR S (lcE [] g its S) = r) {xs : List α} (e : α → D) (f : α → D) (hi : its = xs.map e) (h : ∀ x ∈ xs, ∀ T, g (e x) T = .ok (some (f x)) T) (hz : xs.length ≤ 10000) (hn : ∀ x ∈ xs, nrD (f x) = true) : r = .ok (.lst (xs.map f)) S := by
  subst hr hi
  exact lc_map e f h hz hn
theorem lc_resF {α : Type} {S : List O} {g : D → List O → R (Option D)} {its : List D} {r : R D} (hr : gcR S (lcE [] g its S) = r) {xs : List α} (e : α → D) (p : α → Bool) (f : α → D) (hi : its = xs.map e) (h : ∀ x ∈ xs, ∀ T, g (e x) T = .ok (if p x = true then some (f x) else none) T) (hz : xs.length ≤ 10000) (hn : ∀ x ∈ xs, nrD (f x) = true) : r = .ok (.lst ((xs.filter p).map f)) S := by
  subst hr hi
  exact lc_flt e p f h hz hn
/-! ### while, by a measure -/
theorem wh_of {c : Env' → List O → R Bool} {b : Env' → List O → Fl} {k : Env' → List O → Fl} {P : Fl → Prop} (J : Nat → Env' → List O → Prop)
    (step : ∀ n ρ S, J n ρ S → (∃ S', c ρ S = .ok false S' ∧ P (k ρ S')) ∨ (∃ S', c ρ S = .ok true S' ∧ ((∃ n', n' < n ∧ Nx (J n') (b ρ S')) ∨ (P (b ρ S') ∧ ∀ ρ2 S2, b ρ S' ≠ .nx ρ2 S2)))) : ∀ (n : Nat) (ρ : Env') (S : List O), J n ρ S → ∃ m f, whF c b m ρ S = some f ∧ P (f.bind k) := by
  intro n
  induction n using Nat.strongRecOn with
  | ind n ih =>
  intro ρ S hj
  rcases step n ρ S hj with ⟨S', h1, h2⟩ | ⟨S', h1, ⟨n', hn, ρ2, S2, h2, h3⟩ | ⟨h2, h3⟩⟩
  · exact ⟨1, .nx ρ S', by unfold whF; rw [h1], h2⟩
  · obtain ⟨m, f, e, p⟩ := ih n' hn ρ2 S2 h3
    refine ⟨m + 1, f, ?_, p⟩
    unfold whF
    rw [h1]
    dsimp only
    rw [h2]
    exact e
  · refine ⟨1, b ρ S', ?_, ?_⟩
    · unfold whF
      rw [h1]
      dsimp only
      cases hb : b ρ S' with
      | nx ρ2 S2 => exact absurd hb (h3 _ _)
      | rt d S2 => rfl
      | ex y ρ2 S2 => rfl
      | bad => rfl
    · cases hb : b ρ S' with
      | nx ρ2 S2 => exact absurd hb (h3 _ _)
      | rt d S2 => rw [hb] at h2; exact h2
      | ex y ρ2 S2 => rw [hb] at h2; exact h2
      | bad => rw [hb] at h2; exact h2
theorem wh_K {c : Env' → List O → R Bool} {b : Env' → List O → Fl} {k : Env' → List O → Fl} {P : Fl → Prop} {n : Nat} {ρ : Env'} {S : List O} (J : Nat → Env' → List O → Prop) (h0 : J n ρ S)
    (step : ∀ n ρ S, J n ρ S → (∃ S', c ρ S = .ok false S' ∧ P (k ρ S')) ∨ (∃ S', c ρ S = .ok true S' ∧ ((∃ n', n' < n ∧ Nx (J n') (b ρ S')) ∨ (P (b ρ S') ∧ ∀ ρ2 S2, b ρ S' ≠ .nx ρ2 S2)))) : P ((whC c b ρ S).bind k) := by
  obtain ⟨m, f, e, p⟩ := wh_of J step n ρ S h0
  rw [whC_of e]
  exact p
/-! ### a list on top of the store -/
section
variable {S : List O} {ds : List D} {w : D}
theorem pop_top : methD .pop (.ref S.length) [] (S ++ [.lst (ds ++ [w])]) = .ok w (S ++ [.lst ds]) := by
  simp [methD]
theorem app_top (h : ds.length ≤ 100000) : methD .append (.ref S.length) [w] (S ++ [.lst ds]) = .ok .non (S ++ [.lst (ds ++ [w])]) := by
  rw [app_lst (by simp) h]; simp
@[simp] theorem at_app_top : MT.at .append (S ++ [.lst ds]) (.ref S.length) = true := at_app (ds := ds) (by simp)
@[simp] theorem at_pop_top : MT.at .pop (S ++ [.lst ds]) (.ref S.length) = true := at_app (ds := ds) (by simp)
theorem ne_top : eqDS true (.ref S.length) (.lst []) (S ++ [.lst ds]) = .ok (.bl (!ds.isEmpty)) (S ++ [.lst ds]) := ne_lst (by simp)
end
/-- == () -/
theorem eqS_t0 {neg : Bool} {a : List D} {S : List O} : eqDS neg (.tup a) (.tup []) S = .ok (.bl (neg != a.isEmpty)) S := by
  show (if a = [] ∨ ([] : List D) = [] then R.ok (D.bl (neg != (a.length == ([] : List D).length))) S else if (shD (.tup a) && shD (.tup [])) = true then .ok (.bl (neg != eqD (.tup a) (.tup []))) S else .bad) = _
  rw [if_pos (.inr rfl)]
  cases a <;> rfl
/-! ### things of any plain kind -/
mutual
/-- nothing stored, no instances, no written tuples within -/
def plD : D → Bool
  | .non | .bl _ | .int _ | .str _ => true
  | .tup ds | .lst ds => plL ds
  | .dk _ ds | .dt _ ds => plL ds
  | _ => false
def plL : List D → Bool
  | [] => true
  | d :: ds => plD d && plL ds
end
def isIntD : D → Bool
  | .int _ => true
  | _ => false
def isTupD : D → Bool
  | .tup _ => true
  | _ => false
/-- is a number among places -/
theorem any_tupI {ps : List Nat} {p : Int} : (((ps.map fun p => D.int (p : Nat)).any fun z => eqD z (.int p)) = true) ↔ (0 ≤ p ∧ p.toNat ∈ ps) := by
  rw [List.any_eq_true]
  constructor
  · rintro ⟨z, hz, h⟩
    obtain ⟨q, hq, rfl⟩ := List.mem_map.mp hz
    rw [eq_int] at h
    have : (q : Int) = p := by simpa using h
    subst this
    exact ⟨by omega, by simpa using hq⟩
  · rintro ⟨h0, h1⟩
    exact ⟨.int p, List.mem_map.mpr ⟨p.toNat, h1, by simp [Int.toNat_of_nonneg h0]⟩, by simp⟩
theorem in_tupI {neg : Bool} {ps : List Nat} {p : Int} {S : List O} : inDS neg (.int p) (tupI ps) S = .ok (.bl (neg != (decide (0 ≤ p) && ps.contains p.toNat))) S := by
  have e : ((ps.map fun p => D.int (p : Nat)).any fun z => eqD z (.int p)) = (decide (0 ≤ p) && ps.contains p.toNat) := by
    rw [Bool.eq_iff_iff, any_tupI]
    simp
  show (if (shD (.int p) && shD (tupI ps)) = true then R.ok (D.bl (neg != (ps.map fun p => D.int (p : Nat)).any fun z => eqD z (.int p))) S else .bad) = _
  rw [sh_tupI, e]
  rfl
@[simp] theorem eqS_bl {neg a b : Bool} {S : List O} : eqDS neg (.bl a) (.bl b) S = .ok (.bl (neg != (a == b))) S := eqS_scl rfl rfl
@[simp] theorem eqS_in {neg : Bool} {i j : Int} {S : List O} : eqDS neg (.int i) (.int j) S = .ok (.bl (neg != (i == j))) S := rfl
/-- "".join(signs) -/
theorem join_chars {cs : List Nat} {S : List O} (h : cs.length ≤ 100000) : methD .join (.str []) [.lst (cs.map fun c => D.str [c])] S = .ok (.str cs) S := by
  have e1 : strsOf (cs.map fun c => D.str [c]) = some (cs.map fun c => [c]) := by
    rw [show (cs.map fun c => D.str [c]) = (cs.map fun c => [c]).map D.str by simp [Function.comp_def], strsOf_map]
  have e2 : ∀ cs : List Nat, joinL [] (cs.map fun c => [c]) = cs := fun cs => by
    induction cs with
    | nil => rfl
    | cons c cs ih => cases cs with
      | nil => rfl
      | cons d cs => show [c] ++ [] ++ joinL [] ((d :: cs).map fun c => [c]) = _; rw [ih]; rfl
  have e3 : ∀ cs : List Nat, ((cs.map fun c => [c]).map (fun y : List Nat => y.length)).sum = cs.length := fun cs => by
    induction cs with
    | nil => rfl
    | cons c cs ih => simp only [List.map_cons, List.sum_cons, ih, List.length_cons, List.length_nil]; omega
  show (match strsOf (cs.map fun c => D.str [c]) with
    | some ys => if (ys.map (fun y : List Nat => y.length)).sum + ys.length * ([] : List Nat).length ≤ 16777216 then R.ok (D.str (joinL [] ys)) S else .bad
    | none => .bad) = _
  rw [e1]
  dsimp only
  rw [e2, e3, if_pos (by simp; omega)]
theorem idx_nat {ds : List D} {n : Nat} (h : n < ds.length) {S : List O} : idxD (.lst ds) (.int (n : Nat)) S = .ok ds[n] S := by
  show (match atI ds (n : Int) with
    | some d => R.ok d S
    | none => .bad) = _
  rw [at_nat h]
/-- one of a list -/
theorem idx_mem {n : Nat} (ds : List D) (h : n < ds.length) : ∃ d ∈ ds, ∀ S, idxD (.lst ds) (.int (n : Nat)) S = .ok d S := ⟨_, List.getElem_mem h, fun _ => idx_nat h⟩
/-- a loop's body, a choice's sides -/
def S.body : Ev.S → Ss
  | .fr _ _ b => b
  | .wh _ b => b
  | .ife _ a _ => a
  | .tri b _ => b
  | _ => .nil
def S.els : Ev.S → Ss
  | .ife _ _ b => b
  | _ => .nil
end Ev
end
section
set_option Elab.async false
set_option linter.all false
set_option maxRecDepth 100000
set_option maxHeartbeats 4000000
set_option autoImplicit false
/-! the tables of the law, printed by gen.py -/
namespace LK82
open PySem PySem.Spec PyProof.Rows L2 Ev
def top (i : Nat) : Stmt := PySem.Challenge.pw_likeslips_k82_facts_and_looks_refused.main.body.getD i (.Pass ⟨0, 0, 0, 0⟩)
abbrev F_is_integer : Nat := 0
abbrev F_is_row : Nat := 1
abbrev F_is_row_of_length : Nat := 2
abbrev F_is_marked : Nat := 3
abbrev F_with_sign : Nat := 4
abbrev F_odd_sign : Nat := 5
abbrev F_places_of_fact : Nat := 6
abbrev F_check_fact : Nat := 7
abbrev F_sign_for : Nat := 8
abbrev F_rows_fitting : Nat := 9
abbrev F_hangs_on : Nat := 10
abbrev F_hanging_at : Nat := 11
abbrev F_hanging : Nat := 12
abbrev F_looks_from : Nat := 13
abbrev F_looks_for : Nat := 14
abbrev F_looks : Nat := 15
abbrev F_sum_fact : Nat := 16
abbrev F_unlike_looks : Nat := 17
abbrev F_all_lots_of_places : Nat := 18
abbrev F_fewest_from : Nat := 19
abbrev F_tree_from : Nat := 20
abbrev F_fewest_looks : Nat := 21
abbrev F_is_look_tree : Nat := 22
abbrev F_proof_for : Nat := 23
abbrev F_l_hand : Nat := 24
abbrev F_l_draw : Nat := 25
abbrev F_l_call : Nat := 26
abbrev F_l_word : Nat := 27
abbrev F_l_signs : Nat := 28
abbrev F_l_good : Nat := 29
abbrev F_l_odd_fact : Nat := 30
abbrev F_l_odd : Nat := 31
abbrev F_law : Nat := 32
abbrev C_SlipError : Nat := 0
abbrev C_BadStanding : Nat := 1
abbrev C_BadDepth : Nat := 2
abbrev C_BadRow : Nat := 3
abbrev C_BadFact : Nat := 4
abbrev G_SIGNS : Nat := 0
abbrev G_DOT : Nat := 1
abbrev G_MOST_FACT_PLACES : Nat := 2
abbrev A_depth : Nat := 0
/-- 0: is_integer(0 thing) -/
def b_is_integer : Ss := (.cons (.ret (.and (.isi (.var 0) [.int]) (.nt (.isi (.var 0) [.bool])))) .nil)
/-- 1: is_row(0 thing, 1 sign) -/
def b_is_row : Ss := (.cons (.ret (.and (.isi (.var 0) [.str]) (.bi .all (.cons (.frz (.lc (.cmp .In (.var 1) (.glb G_SIGNS)) (.nm 1) (.of (.var 0)) (.no) [1])) .nil)))) .nil)
/-- 2: is_row_of_length(0 thing, 1 length) -/
def b_is_row_of_length : Ss := (.cons (.ret (.and (.call F_is_row (.cons (.var 0) .nil)) (.cmp .Eq (.bi .len (.cons (.var 0) .nil)) (.var 1)))) .nil)
/-- 3: is_marked(0 thing, 1 length, 2 mark) -/
def b_is_marked : Ss := (.cons (.ret (.and (.isi (.var 0) [.str]) (.and (.cmp .Eq (.bi .len (.cons (.var 0) .nil)) (.var 1)) (.bi .all (.cons (.frz (.lc (.or (.cmp .In (.var 2) (.glb G_SIGNS)) (.cmp .Eq (.var 2) (.glb G_DOT))) (.nm 2) (.of (.var 0)) (.no) [2])) .nil))))) .nil)
/-- 4: with_sign(0 standing, 1 place, 2 sign) -/
def b_with_sign : Ss := (.cons (.ret (.bin .Add (.bin .Add (.slc (.var 0) (.no) (.yes (.var 1))) (.var 2)) (.slc (.var 0) (.yes (.bin .Add (.var 1) (.int 1))) (.no)))) .nil)
/-- 5: odd_sign(0 number) -/
def b_odd_sign : Ss := (.cons (.ret (.idx (.glb G_SIGNS) (.bin .Mod (.var 0) (.int 2)))) .nil)
/-- 6: places_of_fact(0 fact, 1 many) -/
def b_places_of_fact : Ss := (.cons (.ife (.nt (.call F_is_row (.cons (.var 0) .nil))) (.cons (.ret (.non)) .nil) .nil) (.cons (.fr (.nm 1) (.rng2 (.int 1) (.bin .Add (.glb G_MOST_FACT_PLACES) (.int 1))) (.cons (.ife (.cmp .Eq (.bi .len (.cons (.var 0) .nil)) (.bin .LShift (.int 1) (.var 1))) (.cons (.ret (.var 1)) .nil) .nil) .nil)) (.cons (.ret (.non)) .nil)))
/-- 7: check_fact(0 fact, 1 many) -/
def b_check_fact : Ss := (.cons (.asg (.nm 1) (.call F_places_of_fact (.cons (.var 0) .nil))) (.cons (.ife (.cmp .Is (.var 1) (.non)) (.cons (.rse C_BadFact .nil) .nil) .nil) (.cons (.ret (.var 1)) .nil)))
/-- 8: sign_for(0 fact, 1 row) -/
def b_sign_for : Ss := (.cons (.ret (.idx (.var 0) (.bi .int (.cons (.var 1) (.cons (.int 2) .nil))))) .nil)
/-- 9: rows_fitting(0 standing, 1 found, 2 mark, 3 signs, 4 row, 5 sign) -/
def b_rows_fitting : Ss := (.cons (.asg (.nm 1) (.flst (.cons (.str []) .nil))) (.cons (.fr (.nm 2) (.of (.var 0)) (.cons (.asg (.nm 3) (.ite (.cmp .Eq (.var 2) (.glb G_DOT)) (.glb G_SIGNS) (.tup (.cons (.var 2) .nil)))) (.cons (.asgL2 true 1 (.bin .Add (.var 4) (.var 5)) (.nm 4) (.of (.var 1)) (.nm 5) (.of (.var 3)) [4, 5] [5]) .nil))) (.cons (.ret (.var 1)) .nil)))
/-- 10: hangs_on(0 fact, 1 standing, 2 place, 3 row) -/
def b_hangs_on : Ss := (.cons (.fr (.nm 3) (.of (.call F_rows_fitting (.cons (.call F_with_sign (.cons (.var 1) (.cons (.var 2) (.cons (.str [48]) .nil)))) .nil))) (.cons (.ife (.cmp .NotEq (.call F_sign_for (.cons (.var 0) (.cons (.var 3) .nil))) (.call F_sign_for (.cons (.var 0) (.cons (.call F_with_sign (.cons (.var 3) (.cons (.var 2) (.cons (.str [49]) .nil)))) .nil)))) (.cons (.ret (.bl true)) .nil) .nil) .nil)) (.cons (.ret (.bl false)) .nil))
/-- 11: hanging_at(0 fact, 1 standing, 2 place, 3 mark) -/
def b_hanging_at : Ss := (.cons (.ret (.bi .tuple (.cons (.frz (.lc (.var 2) (.tup (.cons (.nm 2) (.cons (.nm 3) .nil))) (.enm (.var 1)) (.yes (.and (.cmp .Eq (.var 3) (.glb G_DOT)) (.call F_hangs_on (.cons (.var 0) (.cons (.var 1) (.cons (.var 2) .nil)))))) [2, 3])) .nil))) .nil)
/-- 12: hanging(0 fact, 1 standing) -/
def b_hanging : Ss := (.cons (.ife (.nt (.call F_is_marked (.cons (.var 1) (.cons (.call F_check_fact (.cons (.var 0) .nil)) .nil)))) (.cons (.rse C_BadStanding .nil) .nil) .nil) (.cons (.ret (.call F_hanging_at (.cons (.var 0) (.cons (.var 1) .nil)))) .nil))
/-- 13: looks_from(0 known, 1 fact, 2 row, 3 standing, 4 found, 5 place, 6 pair) -/
def b_looks_from : Ss := (.cons (.ife (.cmp .NotIn (.var 3) (.var 0)) (.cons (.asg (.nm 4) (.lst .nil)) (.cons (.fr (.nm 5) (.of (.call F_hanging_at (.cons (.var 1) (.cons (.var 3) .nil)))) (.cons (.exp (.meth .append (.var 4) (.cons (.call F_looks_from (.cons (.var 0) (.cons (.var 1) (.cons (.var 2) (.cons (.call F_with_sign (.cons (.var 3) (.cons (.var 5) (.cons (.idx (.var 2) (.var 5)) .nil)))) .nil))))) .nil))) .nil)) (.cons (.asgI (.var 0) (.var 3) (.tup (.cons (.int 0) (.cons (.int 0) .nil)))) (.cons (.ife (.cmp .NotEq (.var 4) (.flst .nil)) (.cons (.asgI (.var 0) (.var 3) (.tup (.cons (.bin .Add (.int 1) (.bi .min (.cons (.frz (.lc (.idx (.var 6) (.int 0)) (.nm 6) (.of (.var 4)) (.no) [6])) .nil))) (.cons (.bin .Add (.int 1) (.bi .max (.cons (.frz (.lc (.idx (.var 6) (.int 1)) (.nm 6) (.of (.var 4)) (.no) [6])) .nil))) .nil)))) .nil) .nil) .nil)))) .nil) (.cons (.ret (.idx (.var 0) (.var 3))) .nil))
/-- 14: looks_for(0 fact, 1 row) -/
def b_looks_for : Ss := (.cons (.ret (.call F_looks_from (.cons (.emp false) (.cons (.var 0) (.cons (.var 1) (.cons (.bin .Mult (.glb G_DOT) (.bi .len (.cons (.var 1) .nil))) .nil)))))) .nil)
/-- 15: looks(0 fact, 1 row) -/
def b_looks : Ss := (.cons (.ife (.nt (.call F_is_row_of_length (.cons (.var 1) (.cons (.call F_check_fact (.cons (.var 0) .nil)) .nil)))) (.cons (.rse C_BadRow .nil) .nil) .nil) (.cons (.ret (.call F_looks_for (.cons (.var 0) (.cons (.var 1) .nil)))) .nil))
/-- 16: sum_fact(0 fact, 1 many, 2 places, 3 first, 4 row, 5 total, 6 place) -/
def b_sum_fact : Ss := (.cons (.asg (.nm 1) (.call F_check_fact (.cons (.var 0) .nil))) (.cons (.asg (.nm 2) (.call F_hanging_at (.cons (.var 0) (.cons (.bin .Mult (.glb G_DOT) (.var 1)) .nil)))) (.cons (.asg (.nm 3) (.idx (.var 0) (.int 0))) (.cons (.fr (.nm 4) (.of (.call F_rows_fitting (.cons (.bin .Mult (.glb G_DOT) (.var 1)) .nil))) (.cons (.asg (.nm 5) (.bin .Add (.bi .len (.cons (.frz (.lc (.int 1) (.nm 6) (.of (.var 2)) (.yes (.cmp .Eq (.idx (.var 4) (.var 6)) (.str [49]))) [6])) .nil)) (.bi .int (.cons (.var 3) .nil)))) (.cons (.ife (.cmp .NotEq (.call F_sign_for (.cons (.var 0) (.cons (.var 4) .nil))) (.call F_odd_sign (.cons (.var 5) .nil))) (.cons (.ret (.non)) .nil) .nil) .nil))) (.cons (.ret (.tup (.cons (.var 2) (.cons (.var 3) .nil)))) .nil)))))
/-- 17: unlike_looks(0 fact, 1 rows, 2 first, 3 row, 4 pair) -/
def b_unlike_looks : Ss := (.cons (.asg (.nm 1) (.call F_rows_fitting (.cons (.bin .Mult (.glb G_DOT) (.call F_check_fact (.cons (.var 0) .nil))) .nil))) (.cons (.asg (.nm 2) (.call F_looks_for (.cons (.var 0) (.cons (.idx (.var 1) (.int 0)) .nil)))) (.cons (.fr (.nm 3) (.of (.var 1)) (.cons (.asg (.nm 4) (.call F_looks_for (.cons (.var 0) (.cons (.var 3) .nil)))) (.cons (.ife (.or (.cmp .NotEq (.idx (.var 4) (.int 0)) (.idx (.var 4) (.int 1))) (.cmp .NotEq (.var 4) (.var 2))) (.cons (.ret (.tup (.cons (.idx (.var 1) (.int 0)) (.cons (.var 3) .nil)))) .nil) .nil) .nil))) (.cons (.ret (.non)) .nil))))
/-- 18: all_lots_of_places(0 many, 1 found, 2 place, 3 places) -/
def b_all_lots_of_places : Ss := (.cons (.asg (.nm 1) (.flst (.cons (.tup .nil) .nil))) (.cons (.fr (.nm 2) (.rng (.var 0)) (.cons (.asg (.nm 1) (.bin .Add (.var 1) (.frz (.lc (.bin .Add (.var 3) (.tup (.cons (.var 2) .nil))) (.nm 3) (.of (.var 1)) (.no) [3])))) .nil)) (.cons (.ret (.bi .sorted (.cons (.var 1) .nil))) .nil)))
/-- 19: fewest_from(0 known, 1 fact, 2 standing, 3 best, 4 place, 5 number, 6 sign) -/
def b_fewest_from : Ss := (.cons (.ife (.cmp .NotIn (.var 2) (.var 0)) (.cons (.asg (.nm 3) (.non)) (.cons (.fr (.nm 4) (.of (.call F_hanging_at (.cons (.var 1) (.cons (.var 2) .nil)))) (.cons (.asg (.nm 5) (.bin .Add (.int 1) (.bi .max (.cons (.frz (.lc (.call F_fewest_from (.cons (.var 0) (.cons (.var 1) (.cons (.call F_with_sign (.cons (.var 2) (.cons (.var 4) (.cons (.var 6) .nil)))) .nil)))) (.nm 6) (.of (.glb G_SIGNS)) (.no) [6])) .nil)))) (.cons (.asg (.nm 3) (.ite (.cmp .Is (.var 3) (.non)) (.var 5) (.bi .min (.cons (.var 3) (.cons (.var 5) .nil))))) .nil))) (.cons (.asgI (.var 0) (.var 2) (.ite (.cmp .Is (.var 3) (.non)) (.int 0) (.var 3))) .nil))) .nil) (.cons (.ret (.idx (.var 0) (.var 2))) .nil))
/-- 20: tree_from(0 known, 1 fact, 2 standing, 3 place, 4 parts, 5 sign, 6 part) -/
def b_tree_from : Ss := (.cons (.fr (.nm 3) (.of (.call F_hanging_at (.cons (.var 1) (.cons (.var 2) .nil)))) (.cons (.asgL true 4 (.call F_with_sign (.cons (.var 2) (.cons (.var 3) (.cons (.var 5) .nil)))) (.nm 5) (.of (.glb G_SIGNS)) (.no) [5]) (.cons (.ife (.cmp .Eq (.bin .Add (.int 1) (.bi .max (.cons (.frz (.lc (.call F_fewest_from (.cons (.var 0) (.cons (.var 1) (.cons (.var 6) .nil)))) (.nm 6) (.of (.var 4)) (.no) [6])) .nil))) (.call F_fewest_from (.cons (.var 0) (.cons (.var 1) (.cons (.var 2) .nil))))) (.cons (.ret (.tup (.cons (.var 3) (.cons (.call F_tree_from (.cons (.var 0) (.cons (.var 1) (.cons (.idx (.var 4) (.int 0)) .nil)))) (.cons (.call F_tree_from (.cons (.var 0) (.cons (.var 1) (.cons (.idx (.var 4) (.int 1)) .nil)))) .nil))))) .nil) .nil) .nil))) (.cons (.ret (.tup .nil)) .nil))
/-- 21: fewest_looks(0 fact, 1 begin, 2 known) -/
def b_fewest_looks : Ss := (.cons (.asg (.nm 1) (.bin .Mult (.glb G_DOT) (.call F_check_fact (.cons (.var 0) .nil)))) (.cons (.asg (.nm 2) (.emp false)) (.cons (.ret (.tup (.cons (.call F_fewest_from (.cons (.var 2) (.cons (.var 0) (.cons (.var 1) .nil)))) (.cons (.call F_tree_from (.cons (.var 2) (.cons (.var 0) (.cons (.var 1) .nil)))) .nil)))) .nil)))
/-- 22: is_look_tree(0 fact, 1 depth, 2 thing, 3 many, 4 waiting, 5 places, 6 standing, 7 left, 8 tree, 9 sign, 10 later) -/
def b_is_look_tree : Ss := (.cons (.asg (.nm 3) (.call F_check_fact (.cons (.var 0) .nil))) (.cons (.ife (.or (.nt (.call F_is_integer (.cons (.var 1) .nil))) (.cmp .Lt (.var 1) (.int 0))) (.cons (.rse C_BadDepth (.cons (.var 1) .nil)) .nil) .nil) (.cons (.asg (.nm 4) (.lst (.cons (.tup (.cons (.bin .Mult (.glb G_DOT) (.var 3)) (.cons (.var 1) (.cons (.var 2) .nil)))) .nil))) (.cons (.wh (.cmp .NotEq (.var 4) (.flst .nil)) (.cons (.asg (.tup (.cons (.nm 6) (.cons (.nm 7) (.cons (.nm 8) .nil)))) (.meth .pop (.var 4) .nil)) (.cons (.asg (.nm 5) (.call F_hanging_at (.cons (.var 0) (.cons (.var 6) .nil)))) (.cons (.ife (.or (.nt (.isi (.var 8) [.tuple])) (.cmp .NotEq (.cmp .Eq (.var 8) (.tup .nil)) (.cmp .Eq (.var 5) (.tup .nil)))) (.cons (.ret (.bl false)) .nil) .nil) (.cons (.ife (.cmp .NotEq (.var 8) (.tup .nil)) (.cons (.ife (.or (.cmp .NotEq (.bi .len (.cons (.var 8) .nil)) (.int 3)) (.or (.cmp .Eq (.var 7) (.int 0)) (.or (.nt (.call F_is_integer (.cons (.idx (.var 8) (.int 0)) .nil))) (.cmp .NotIn (.idx (.var 8) (.int 0)) (.var 5))))) (.cons (.ret (.bl false)) .nil) .nil) (.cons (.fr (.tup (.cons (.nm 9) (.cons (.nm 10) .nil))) (.zip (.glb G_SIGNS) (.slc (.var 8) (.yes (.int 1)) (.no))) (.cons (.exp (.meth .append (.var 4) (.cons (.tup (.cons (.call F_with_sign (.cons (.var 6) (.cons (.idx (.var 8) (.int 0)) (.cons (.var 9) .nil)))) (.cons (.bin .Sub (.var 7) (.int 1)) (.cons (.var 10) .nil)))) .nil))) .nil)) .nil)) .nil) .nil))))) (.cons (.ret (.bl true)) .nil)))))
/-- 23: proof_for(0 fact, 1 row, 2 many, 3 size, 4 places, 5 standing, 6 place) -/
def b_proof_for : Ss := (.cons (.asg (.nm 2) (.call F_check_fact (.cons (.var 0) .nil))) (.cons (.ife (.nt (.call F_is_row_of_length (.cons (.var 1) (.cons (.var 2) .nil)))) (.cons (.rse C_BadRow .nil) .nil) .nil) (.cons (.fr (.tup (.cons (.nm 3) (.cons (.nm 4) .nil))) (.of (.bi .sorted (.cons (.frz (.lc (.tup (.cons (.bi .len (.cons (.var 4) .nil)) (.cons (.var 4) .nil))) (.nm 4) (.of (.call F_all_lots_of_places (.cons (.var 2) .nil))) (.no) [4])) .nil))) (.cons (.asg (.nm 5) (.bin .Mult (.glb G_DOT) (.var 2))) (.cons (.fr (.nm 6) (.of (.var 4)) (.cons (.asg (.nm 5) (.call F_with_sign (.cons (.var 5) (.cons (.var 6) (.cons (.idx (.var 1) (.var 6)) .nil))))) .nil)) (.cons (.ife (.cmp .Eq (.call F_hanging_at (.cons (.var 0) (.cons (.var 5) .nil))) (.tup .nil)) (.cons (.ret (.var 4)) .nil) .nil) .nil)))) (.cons (.rse C_BadFact .nil) .nil))))
/-- 24: _law_hand(0 _law_script, 1 _law_cells, 2 _law_cell) -/
def b_l_hand : Ss := (.cons (.asgL true 1 (.bi .abs (.cons (.bi .int (.cons (.var 2) .nil)) .nil)) (.nm 2) (.of (.slc (.var 0) (.no) (.yes (.int 63)))) (.no) [2]) (.cons (.ret (.lst (.cons (.var 1) (.cons (.int 0) (.cons (.int 0) (.cons (.bin .Add (.int 1) (.bi .len (.cons (.var 1) .nil))) (.cons (.int 0) .nil))))))) .nil))
/-- 25: _law_draw(0 _law_hand_here, 1 _law_many, 2 _law_number, 3 _law_cell, 4 _law_digit) -/
def b_l_draw : Ss := (.cons (.ife (.and (.cmp .Eq (.idx (.var 0) (.int 2)) (.int 0)) (.cmp .Lt (.idx (.var 0) (.int 1)) (.bi .len (.cons (.idx (.var 0) (.int 0)) .nil)))) (.cons (.asg (.nm 3) (.idx (.idx (.var 0) (.int 0)) (.idx (.var 0) (.int 1)))) (.cons (.asgI (.var 0) (.int 1) (.bin .Add (.idx (.var 0) (.int 1)) (.int 1))) (.cons (.asgI (.var 0) (.int 3) (.bin .Mod (.bi .int (.cons (.bin .Add (.bin .Add (.bin .Mult (.idx (.var 0) (.int 3)) (.int 69621)) (.var 3)) (.int 11)) .nil)) (.int 2147483629))) (.cons (.ife (.cmp .GtE (.var 3) (.bin .Pow (.int 10) (.int 18))) (.cons (.asgI (.var 0) (.int 2) (.var 3)) .nil) .nil) .nil)))) .nil) (.cons (.ife (.cmp .Gt (.idx (.var 0) (.int 2)) (.int 0)) (.cons (.asg (.nm 4) (.bin .Mod (.bi .int (.cons (.idx (.var 0) (.int 2)) .nil)) (.var 1))) (.cons (.asgI (.var 0) (.int 2) (.bin .FloorDiv (.idx (.var 0) (.int 2)) (.var 1))) (.cons (.ret (.var 4)) .nil))) .nil) (.cons (.asgI (.var 0) (.int 4) (.bin .Add (.idx (.var 0) (.int 4)) (.int 1))) (.cons (.asg (.nm 2) (.bin .Mod (.bi .int (.cons (.bin .Mult (.bi .int (.cons (.bin .Add (.idx (.var 0) (.int 3)) (.bin .Mult (.int 7919) (.idx (.var 0) (.int 4)))) .nil)) (.int 48271)) .nil)) (.int 2147483647))) (.cons (.asg (.nm 2) (.bin .Mod (.bi .int (.cons (.bin .Mult (.var 2) (.bin .Add (.bin .FloorDiv (.var 2) (.int 1009)) (.int 69621))) .nil)) (.int 2147483647))) (.cons (.asg (.nm 2) (.bin .Mod (.bi .int (.cons (.bin .Mult (.var 2) (.bin .Add (.bin .FloorDiv (.var 2) (.int 2003)) (.int 40692))) .nil)) (.int 2147483399))) (.cons (.ret (.bin .Mod (.bi .int (.cons (.bin .FloorDiv (.var 2) (.int 16)) .nil)) (.var 1))) .nil)))))))
/-- 26: _law_call(0 _law_which, 1 _law_fact, 2 _law_other) -/
def b_l_call : Ss := (.cons (.ife (.cmp .Eq (.var 0) (.int 0)) (.cons (.exp (.call F_hanging (.cons (.var 1) (.cons (.var 2) .nil)))) .nil) (.cons (.ife (.cmp .Eq (.var 0) (.int 1)) (.cons (.exp (.call F_looks (.cons (.var 1) (.cons (.var 2) .nil)))) .nil) (.cons (.ife (.cmp .Eq (.var 0) (.int 2)) (.cons (.exp (.call F_proof_for (.cons (.var 1) (.cons (.var 2) .nil)))) .nil) (.cons (.ife (.cmp .Eq (.var 0) (.int 3)) (.cons (.exp (.call F_is_look_tree (.cons (.var 1) (.cons (.var 2) (.cons (.tup .nil) .nil))))) .nil) (.cons (.ife (.cmp .Eq (.var 0) (.int 4)) (.cons (.exp (.call F_sum_fact (.cons (.var 1) .nil))) .nil) (.cons (.ife (.cmp .Eq (.var 0) (.int 5)) (.cons (.exp (.call F_unlike_looks (.cons (.var 1) .nil))) .nil) (.cons (.exp (.call F_fewest_looks (.cons (.var 1) .nil))) .nil)) .nil)) .nil)) .nil)) .nil)) .nil)) .nil)
/-- 27: _law_word(0 _law_which, 1 _law_fact, 2 _law_other, 3 _law_word_here, 4 e, 5 _law_flags) -/
def b_l_word : Ss := (.cons (.asg (.nm 3) (.tup (.cons (.str [108, 101, 116]) (.cons (.non) .nil)))) (.cons (.tri (.cons (.exp (.call F_l_call (.cons (.var 0) (.cons (.var 1) (.cons (.var 2) .nil))))) .nil) (.cons (.own C_BadDepth) (some 4) (.cons (.asg (.nm 3) (.tup (.cons (.str [100, 101, 112, 116, 104]) (.cons (.xf A_depth) .nil)))) .nil) (.cons (.own C_SlipError) (some 4) (.cons (.asg (.nm 5) (.flst (.cons (.xis (.own C_BadFact)) (.cons (.xis (.own C_BadStanding)) (.cons (.xis (.own C_BadRow)) .nil))))) (.cons (.asg (.nm 3) (.tup (.cons (.str [111, 116, 104, 101, 114]) (.cons (.non) .nil)))) (.cons (.ife (.and (.cmp .Eq (.meth .lcount (.var 5) (.cons (.bl true) .nil)) (.int 1)) (.xis .value)) (.cons (.asg (.nm 3) (.tup (.cons (.idx (.flst (.cons (.str [102, 97, 99, 116]) (.cons (.str [115, 116, 97, 110, 100, 105, 110, 103]) (.cons (.str [114, 111, 119]) .nil)))) (.meth .lindex (.var 5) (.cons (.bl true) .nil))) (.cons (.non) .nil)))) .nil) .nil) .nil))) .nil))) (.cons (.ret (.var 3)) .nil)))
/-- 28: _law_signs(0 _law_hand_here, 1 _law_many, 2 _law_marks, 3 _law_k) -/
def b_l_signs : Ss := (.cons (.ret (.meth .join (.str []) (.cons (.frz (.lc (.idx (.var 2) (.call F_l_draw (.cons (.var 0) (.cons (.bi .len (.cons (.var 2) .nil)) .nil)))) (.nm 3) (.rng (.var 1)) (.no) [3])) .nil))) .nil)
/-- 29: _law_good(0 _law_hand_here, 1 _law_which, 2 _law_places) -/
def b_l_good : Ss := (.cons (.ife (.cmp .Eq (.var 1) (.int 0)) (.cons (.ret (.call F_l_signs (.cons (.var 0) (.cons (.var 2) (.cons (.str [48, 49, 46]) .nil))))) .nil) .nil) (.cons (.ife (.cmp .Eq (.var 1) (.int 3)) (.cons (.ret (.idx (.flst (.cons (.int 0) (.cons (.int 1) (.cons (.int 6) (.cons (.bin .Pow (.int 10) (.int 30)) .nil))))) (.call F_l_draw (.cons (.var 0) (.cons (.int 4) .nil))))) .nil) .nil) (.cons (.ret (.call F_l_signs (.cons (.var 0) (.cons (.var 2) (.cons (.str [48, 49]) .nil))))) .nil)))
/-- 30: _law_odd_fact(0 _law_hand_here, 1 _law_fact, 2 _law_at, 3 _law_odd_here, 4 _law_things) -/
def b_l_odd_fact : Ss := (.cons (.asg (.nm 2) (.call F_l_draw (.cons (.var 0) (.cons (.bi .len (.cons (.var 1) .nil)) .nil)))) (.cons (.asg (.nm 3) (.bin .Add (.bin .Add (.slc (.var 1) (.no) (.yes (.var 2))) (.idx (.flst (.cons (.str [46]) (.cons (.str [50]) (.cons (.str [32]) (.cons (.str [97]) .nil))))) (.call F_l_draw (.cons (.var 0) (.cons (.int 4) .nil))))) (.slc (.var 1) (.yes (.bin .Add (.var 2) (.int 1))) (.no)))) (.cons (.asg (.nm 4) (.flst (.cons (.str []) (.cons (.str [48]) (.cons (.var 3) (.cons (.var 3) (.cons (.bin .Add (.var 1) (.str [48])) (.cons (.bin .Add (.slc (.var 1) (.yes (.int 1)) (.no)) (.str [48, 49])) (.cons (.bin .Add (.bin .Add (.var 1) (.var 1)) (.var 1)) (.cons (.bin .Mult (.str [48, 49]) (.int 64)) (.cons (.non) (.cons (.bl true) (.cons (.int 0) (.cons (.bi .list (.cons (.var 1) .nil)) .nil)))))))))))))) (.cons (.ret (.idx (.bin .Add (.var 4) (.flst (.cons (.tup (.cons (.var 1) .nil)) (.cons (.femp false) (.cons (.int 10) (.cons (.bi .tuple (.cons (.var 1) .nil)) .nil)))))) (.call F_l_draw (.cons (.var 0) (.cons (.int 16) .nil))))) .nil))))
/-- 31: _law_odd(0 _law_hand_here, 1 _law_which, 2 _law_places, 3 _law_row, 4 _law_at, 5 _law_marks, 6 _law_odd_here) -/
def b_l_odd : Ss := (.cons (.ife (.cmp .Eq (.var 1) (.int 3)) (.cons (.ret (.idx (.flst (.cons (.neg (.int 1)) (.cons (.bl true) (.cons (.bl false) (.cons (.non) (.cons (.str [49]) (.cons (.tup (.cons (.int 1) .nil)) (.cons (.flst .nil) (.cons (.neg (.bin .Pow (.int 10) (.int 30))) .nil))))))))) (.call F_l_draw (.cons (.var 0) (.cons (.int 8) .nil))))) .nil) .nil) (.cons (.asg (.nm 3) (.call F_l_signs (.cons (.var 0) (.cons (.var 2) (.cons (.str [48, 49]) .nil))))) (.cons (.asg (.nm 4) (.call F_l_draw (.cons (.var 0) (.cons (.var 2) .nil)))) (.cons (.asg (.nm 5) (.flst (.cons (.str [50]) (.cons (.str [32]) (.cons (.str [45]) (.cons (.str [120]) .nil)))))) (.cons (.ife (.cmp .Gt (.var 1) (.int 0)) (.cons (.asg (.nm 5) (.flst (.cons (.str [50]) (.cons (.str [46]) (.cons (.str [45]) (.cons (.str [120]) .nil)))))) .nil) .nil) (.cons (.asg (.nm 6) (.bin .Add (.bin .Add (.slc (.var 3) (.no) (.yes (.var 4))) (.idx (.var 5) (.call F_l_draw (.cons (.var 0) (.cons (.int 4) .nil))))) (.slc (.var 3) (.yes (.bin .Add (.var 4) (.int 1))) (.no)))) (.cons (.ret (.idx (.flst (.cons (.var 6) (.cons (.var 6) (.cons (.var 6) (.cons (.bin .Add (.var 3) (.str [48])) (.cons (.slc (.var 3) (.yes (.int 1)) (.no)) (.cons (.str []) (.cons (.non) (.cons (.int 0) (.cons (.bl true) (.cons (.bi .list (.cons (.var 3) .nil)) (.cons (.tup (.cons (.var 3) .nil)) (.cons (.femp false) .nil))))))))))))) (.call F_l_draw (.cons (.var 0) (.cons (.int 12) .nil))))) .nil)))))))
/-- 32: law(0 _law_script, 1 _law_hand_here, 2 _law_turn, 3 _law_places, 4 _law_which, 5 _law_fact, 6 _law_good_here, 7 _law_odd_here, 8 _law_wrong, 9 _law_due) -/
def b_law : Ss := (.cons (.asg (.nm 1) (.call F_l_hand (.cons (.var 0) .nil))) (.cons (.fr (.nm 2) (.rng (.int 6)) (.cons (.asg (.nm 3) (.bin .Add (.int 1) (.call F_l_draw (.cons (.var 1) (.cons (.int 4) .nil))))) (.cons (.asg (.nm 4) (.call F_l_draw (.cons (.var 1) (.cons (.int 7) .nil)))) (.cons (.ife (.and (.cmp .NotEq (.var 4) (.int 5)) (.cmp .Eq (.call F_l_draw (.cons (.var 1) (.cons (.int 8) .nil))) (.int 0))) (.cons (.asg (.nm 3) (.bin .Add (.int 5) (.call F_l_draw (.cons (.var 1) (.cons (.int 2) .nil))))) .nil) .nil) (.cons (.asg (.nm 5) (.call F_l_signs (.cons (.var 1) (.cons (.idx (.flst (.cons (.int 2) (.cons (.int 4) (.cons (.int 8) (.cons (.int 16) (.cons (.int 32) (.cons (.int 64) .nil))))))) (.bin .Sub (.var 3) (.int 1))) (.cons (.str [48, 49]) .nil))))) (.cons (.asg (.nm 6) (.call F_l_good (.cons (.var 1) (.cons (.var 4) (.cons (.var 3) .nil))))) (.cons (.asg (.nm 7) (.call F_l_odd (.cons (.var 1) (.cons (.var 4) (.cons (.var 3) .nil))))) (.cons (.asg (.nm 8) (.call F_l_odd_fact (.cons (.var 1) (.cons (.var 5) .nil)))) (.cons (.ife (.cmp .NotEq (.call F_l_word (.cons (.var 4) (.cons (.var 5) (.cons (.var 6) .nil)))) (.tup (.cons (.str [108, 101, 116]) (.cons (.non) .nil)))) (.cons (.ret (.bl false)) .nil) .nil) (.cons (.ife (.or (.cmp .NotEq (.call F_l_word (.cons (.var 4) (.cons (.var 8) (.cons (.var 6) .nil)))) (.tup (.cons (.str [102, 97, 99, 116]) (.cons (.non) .nil)))) (.cmp .NotEq (.call F_l_word (.cons (.var 4) (.cons (.var 8) (.cons (.var 7) .nil)))) (.tup (.cons (.str [102, 97, 99, 116]) (.cons (.non) .nil))))) (.cons (.ret (.bl false)) .nil) .nil) (.cons (.asg (.nm 9) (.flst (.cons (.tup (.cons (.str [115, 116, 97, 110, 100, 105, 110, 103]) (.cons (.non) .nil))) (.cons (.tup (.cons (.str [114, 111, 119]) (.cons (.non) .nil))) (.cons (.tup (.cons (.str [114, 111, 119]) (.cons (.non) .nil))) (.cons (.tup (.cons (.str [100, 101, 112, 116, 104]) (.cons (.var 7) .nil))) .nil)))))) (.cons (.ife (.and (.cmp .Lt (.var 4) (.int 4)) (.cmp .NotEq (.call F_l_word (.cons (.var 4) (.cons (.var 5) (.cons (.var 7) .nil)))) (.idx (.var 9) (.var 4)))) (.cons (.ret (.bl false)) .nil) .nil) .nil)))))))))))) (.cons (.ret (.bl true)) .nil)))
def tb : Tb := { fn := ((["is_integer", "is_row", "is_row_of_length", "is_marked", "with_sign", "odd_sign", "places_of_fact", "check_fact", "sign_for", "rows_fitting", "hangs_on", "hanging_at", "hanging", "looks_from", "looks_for", "looks", "sum_fact", "unlike_looks", "all_lots_of_places", "fewest_from"] : List PySem.Str) ++ (["tree_from", "fewest_looks", "is_look_tree", "proof_for", "_law_hand", "_law_draw", "_law_call", "_law_word", "_law_signs", "_law_good", "_law_odd_fact", "_law_odd", "law"] : List PySem.Str)), gl := ["SIGNS", "DOT", "MOST_FACT_PLACES"], cl := ["SlipError", "BadStanding", "BadDepth", "BadRow", "BadFact"], an := ["depth"] }
def dfs : List Df := [⟨1, 1, false, b_is_integer⟩, ⟨1, 2, false, b_is_row⟩, ⟨2, 2, false, b_is_row_of_length⟩, ⟨2, 3, false, b_is_marked⟩, ⟨3, 3, false, b_with_sign⟩, ⟨1, 1, false, b_odd_sign⟩, ⟨1, 2, false, b_places_of_fact⟩, ⟨1, 2, false, b_check_fact⟩, ⟨2, 2, false, b_sign_for⟩, ⟨1, 6, false, b_rows_fitting⟩, ⟨3, 4, false, b_hangs_on⟩, ⟨2, 4, false, b_hanging_at⟩, ⟨2, 2, false, b_hanging⟩, ⟨4, 7, false, b_looks_from⟩, ⟨2, 2, false, b_looks_for⟩, ⟨2, 2, false, b_looks⟩, ⟨1, 7, false, b_sum_fact⟩, ⟨1, 5, false, b_unlike_looks⟩, ⟨1, 4, false, b_all_lots_of_places⟩, ⟨3, 7, false, b_fewest_from⟩, ⟨3, 7, false, b_tree_from⟩, ⟨1, 3, false, b_fewest_looks⟩, ⟨3, 11, false, b_is_look_tree⟩, ⟨2, 7, false, b_proof_for⟩, ⟨1, 3, true, b_l_hand⟩, ⟨2, 5, false, b_l_draw⟩, ⟨3, 3, false, b_l_call⟩, ⟨3, 6, false, b_l_word⟩, ⟨3, 4, false, b_l_signs⟩, ⟨3, 3, false, b_l_good⟩, ⟨2, 5, false, b_l_odd_fact⟩, ⟨3, 7, false, b_l_odd⟩, ⟨1, 10, false, b_law⟩]
def tl : Tl where
  tb := tb
  gv := [.ft [.str [48], .str [49]], .str [46], .int 6]
  sub := [(0, 0), (1, 1), (1, 0), (2, 2), (2, 0), (3, 3), (3, 0), (4, 4), (4, 0)]
  val := [0, 1, 2, 3, 4]
  icl := []
  exc := [0, 1, 2, 3, 4]
  fld := []
  mth := []
  ini := []
  xin := [⟨2, 0, "self", "depth"⟩]
  defs := dfs
theorem an_nd : tl.tb.an.Nodup := by decide +kernel
theorem ok_is_integer : okSs tb tl.ct b_is_integer { N := ["thing"], sc := defScope (top 9), fn := fun _ => true, cm := true, hv := none } (defBody (top 9)) = true := by decide +kernel
theorem ok_is_row : okSs tb tl.ct b_is_row { N := ["thing", "sign"], sc := defScope (top 10), fn := fun _ => true, cm := true, hv := none } (defBody (top 10)) = true := by decide +kernel
theorem ok_is_row_of_length : okSs tb tl.ct b_is_row_of_length { N := ["thing", "length"], sc := defScope (top 11), fn := fun _ => true, cm := true, hv := none } (defBody (top 11)) = true := by decide +kernel
theorem ok_is_marked : okSs tb tl.ct b_is_marked { N := ["thing", "length", "mark"], sc := defScope (top 12), fn := fun _ => true, cm := true, hv := none } (defBody (top 12)) = true := by decide +kernel
theorem ok_with_sign : okSs tb tl.ct b_with_sign { N := ["standing", "place", "sign"], sc := defScope (top 13), fn := fun _ => true, cm := true, hv := none } (defBody (top 13)) = true := by decide +kernel
theorem ok_odd_sign : okSs tb tl.ct b_odd_sign { N := ["number"], sc := defScope (top 14), fn := fun _ => true, cm := true, hv := none } (defBody (top 14)) = true := by decide +kernel
theorem ok_places_of_fact : okSs tb tl.ct b_places_of_fact { N := ["fact", "many"], sc := defScope (top 17), fn := fun _ => true, cm := true, hv := none } (defBody (top 17)) = true := by decide +kernel
theorem ok_check_fact : okSs tb tl.ct b_check_fact { N := ["fact", "many"], sc := defScope (top 18), fn := fun _ => true, cm := true, hv := none } (defBody (top 18)) = true := by decide +kernel
theorem ok_sign_for : okSs tb tl.ct b_sign_for { N := ["fact", "row"], sc := defScope (top 19), fn := fun _ => true, cm := true, hv := none } (defBody (top 19)) = true := by decide +kernel
theorem ok_rows_fitting : okSs tb tl.ct b_rows_fitting { N := ["standing", "found", "mark", "signs", "row", "sign"], sc := defScope (top 20), fn := fun _ => true, cm := true, hv := none } (defBody (top 20)) = true := by decide +kernel
theorem ok_hangs_on : okSs tb tl.ct b_hangs_on { N := ["fact", "standing", "place", "row"], sc := defScope (top 21), fn := fun _ => true, cm := true, hv := none } (defBody (top 21)) = true := by decide +kernel
theorem ok_hanging_at : okSs tb tl.ct b_hanging_at { N := ["fact", "standing", "place", "mark"], sc := defScope (top 22), fn := fun _ => true, cm := true, hv := none } (defBody (top 22)) = true := by decide +kernel
theorem ok_hanging : okSs tb tl.ct b_hanging { N := ["fact", "standing"], sc := defScope (top 23), fn := fun _ => true, cm := true, hv := none } (defBody (top 23)) = true := by decide +kernel
theorem ok_looks_from : okSs tb tl.ct b_looks_from { N := ["known", "fact", "row", "standing", "found", "place", "pair"], sc := defScope (top 24), fn := fun _ => true, cm := true, hv := none } (defBody (top 24)) = true := by decide +kernel
theorem ok_looks_for : okSs tb tl.ct b_looks_for { N := ["fact", "row"], sc := defScope (top 25), fn := fun _ => true, cm := true, hv := none } (defBody (top 25)) = true := by decide +kernel
theorem ok_looks : okSs tb tl.ct b_looks { N := ["fact", "row"], sc := defScope (top 26), fn := fun _ => true, cm := true, hv := none } (defBody (top 26)) = true := by decide +kernel
theorem ok_sum_fact : okSs tb tl.ct b_sum_fact { N := ["fact", "many", "places", "first", "row", "total", "place"], sc := defScope (top 27), fn := fun _ => true, cm := true, hv := none } (defBody (top 27)) = true := by decide +kernel
theorem ok_unlike_looks : okSs tb tl.ct b_unlike_looks { N := ["fact", "rows", "first", "row", "pair"], sc := defScope (top 28), fn := fun _ => true, cm := true, hv := none } (defBody (top 28)) = true := by decide +kernel
theorem ok_all_lots_of_places : okSs tb tl.ct b_all_lots_of_places { N := ["many", "found", "place", "places"], sc := defScope (top 30), fn := fun _ => true, cm := true, hv := none } (defBody (top 30)) = true := by decide +kernel
theorem ok_fewest_from : okSs tb tl.ct b_fewest_from { N := ["known", "fact", "standing", "best", "place", "number", "sign"], sc := defScope (top 32), fn := fun _ => true, cm := true, hv := none } (defBody (top 32)) = true := by decide +kernel
theorem ok_tree_from : okSs tb tl.ct b_tree_from { N := ["known", "fact", "standing", "place", "parts", "sign", "part"], sc := defScope (top 33), fn := fun _ => true, cm := true, hv := none } (defBody (top 33)) = true := by decide +kernel
theorem ok_fewest_looks : okSs tb tl.ct b_fewest_looks { N := ["fact", "begin", "known"], sc := defScope (top 34), fn := fun _ => true, cm := true, hv := none } (defBody (top 34)) = true := by decide +kernel
theorem ok_is_look_tree : okSs tb tl.ct b_is_look_tree { N := ["fact", "depth", "thing", "many", "waiting", "places", "standing", "left", "tree", "sign", "later"], sc := defScope (top 35), fn := fun _ => true, cm := true, hv := none } (defBody (top 35)) = true := by decide +kernel
theorem ok_proof_for : okSs tb tl.ct b_proof_for { N := ["fact", "row", "many", "size", "places", "standing", "place"], sc := defScope (top 36), fn := fun _ => true, cm := true, hv := none } (defBody (top 36)) = true := by decide +kernel
theorem ok_l_hand : okSs tb tl.ct b_l_hand { N := ["_law_script", "_law_cells", "_law_cell"], sc := defScope (top 38), fn := fun _ => true, cm := true, hv := none } (defBody (top 38)) = true := by decide +kernel
theorem ok_l_draw : okSs tb tl.ct b_l_draw { N := ["_law_hand_here", "_law_many", "_law_number", "_law_cell", "_law_digit"], sc := defScope (top 39), fn := fun _ => true, cm := true, hv := none } (defBody (top 39)) = true := by decide +kernel
theorem ok_l_call : okSs tb tl.ct b_l_call { N := ["_law_which", "_law_fact", "_law_other"], sc := defScope (top 40), fn := fun _ => true, cm := true, hv := none } (defBody (top 40)) = true := by decide +kernel
theorem ok_l_word : okSs tb tl.ct b_l_word { N := ["_law_which", "_law_fact", "_law_other", "_law_word_here", "e", "_law_flags"], sc := defScope (top 41), fn := fun _ => true, cm := true, hv := none } (defBody (top 41)) = true := by decide +kernel
theorem ok_l_signs : okSs tb tl.ct b_l_signs { N := ["_law_hand_here", "_law_many", "_law_marks", "_law_k"], sc := defScope (top 42), fn := fun _ => true, cm := true, hv := none } (defBody (top 42)) = true := by decide +kernel
theorem ok_l_good : okSs tb tl.ct b_l_good { N := ["_law_hand_here", "_law_which", "_law_places"], sc := defScope (top 43), fn := fun _ => true, cm := true, hv := none } (defBody (top 43)) = true := by decide +kernel
theorem ok_l_odd_fact : okSs tb tl.ct b_l_odd_fact { N := ["_law_hand_here", "_law_fact", "_law_at", "_law_odd_here", "_law_things"], sc := defScope (top 44), fn := fun _ => true, cm := true, hv := none } (defBody (top 44)) = true := by decide +kernel
theorem ok_l_odd : okSs tb tl.ct b_l_odd { N := ["_law_hand_here", "_law_which", "_law_places", "_law_row", "_law_at", "_law_marks", "_law_odd_here"], sc := defScope (top 45), fn := fun _ => true, cm := true, hv := none } (defBody (top 45)) = true := by decide +kernel
theorem ok_law : okSs tb tl.ct b_law { N := ["_law_script", "_law_hand_here", "_law_turn", "_law_places", "_law_which", "_law_fact", "_law_good_here", "_law_odd_here", "_law_wrong", "_law_due"], sc := defScope (top 46), fn := fun _ => true, cm := true, hv := none } (defBody (top 46)) = true := by decide +kernel
@[simp] theorem g_SIGNS : tl.ct.glb G_SIGNS = .ft [.str [48], .str [49]] := rfl
@[simp] theorem g_DOT : tl.ct.glb G_DOT = .str [46] := rfl
@[simp] theorem g_MOST_FACT_PLACES : tl.ct.glb G_MOST_FACT_PLACES = .int 6 := rfl
theorem run_is_integer {k : Nat} {x0 : D} {S : List O} : callD tl.ct (k + 1) F_is_integer [x0] S = gcR S (fin (evSs tl.ct (callD tl.ct k) b_is_integer none [some x0] S)) := call_gc (np := 1) (nn := 1) rfl rfl
theorem run_is_row {k : Nat} {x0 : D} {S : List O} : callD tl.ct (k + 1) F_is_row [x0] S = gcR S (fin (evSs tl.ct (callD tl.ct k) b_is_row none [some x0, none] S)) := call_gc (np := 1) (nn := 2) rfl rfl
theorem run_is_row_of_length {k : Nat} {x0 x1 : D} {S : List O} : callD tl.ct (k + 1) F_is_row_of_length [x0, x1] S = gcR S (fin (evSs tl.ct (callD tl.ct k) b_is_row_of_length none [some x0, some x1] S)) := call_gc (np := 2) (nn := 2) rfl rfl
theorem run_is_marked {k : Nat} {x0 x1 : D} {S : List O} : callD tl.ct (k + 1) F_is_marked [x0, x1] S = gcR S (fin (evSs tl.ct (callD tl.ct k) b_is_marked none [some x0, some x1, none] S)) := call_gc (np := 2) (nn := 3) rfl rfl
theorem run_with_sign {k : Nat} {x0 x1 x2 : D} {S : List O} : callD tl.ct (k + 1) F_with_sign [x0, x1, x2] S = gcR S (fin (evSs tl.ct (callD tl.ct k) b_with_sign none [some x0, some x1, some x2] S)) := call_gc (np := 3) (nn := 3) rfl rfl
theorem run_odd_sign {k : Nat} {x0 : D} {S : List O} : callD tl.ct (k + 1) F_odd_sign [x0] S = gcR S (fin (evSs tl.ct (callD tl.ct k) b_odd_sign none [some x0] S)) := call_gc (np := 1) (nn := 1) rfl rfl
theorem run_places_of_fact {k : Nat} {x0 : D} {S : List O} : callD tl.ct (k + 1) F_places_of_fact [x0] S = gcR S (fin (evSs tl.ct (callD tl.ct k) b_places_of_fact none [some x0, none] S)) := call_gc (np := 1) (nn := 2) rfl rfl
theorem run_check_fact {k : Nat} {x0 : D} {S : List O} : callD tl.ct (k + 1) F_check_fact [x0] S = gcR S (fin (evSs tl.ct (callD tl.ct k) b_check_fact none [some x0, none] S)) := call_gc (np := 1) (nn := 2) rfl rfl
theorem run_sign_for {k : Nat} {x0 x1 : D} {S : List O} : callD tl.ct (k + 1) F_sign_for [x0, x1] S = gcR S (fin (evSs tl.ct (callD tl.ct k) b_sign_for none [some x0, some x1] S)) := call_gc (np := 2) (nn := 2) rfl rfl
theorem run_rows_fitting {k : Nat} {x0 : D} {S : List O} : callD tl.ct (k + 1) F_rows_fitting [x0] S = gcR S (fin (evSs tl.ct (callD tl.ct k) b_rows_fitting none [some x0, none, none, none, none, none] S)) := call_gc (np := 1) (nn := 6) rfl rfl
theorem run_hangs_on {k : Nat} {x0 x1 x2 : D} {S : List O} : callD tl.ct (k + 1) F_hangs_on [x0, x1, x2] S = gcR S (fin (evSs tl.ct (callD tl.ct k) b_hangs_on none [some x0, some x1, some x2, none] S)) := call_gc (np := 3) (nn := 4) rfl rfl
theorem run_hanging_at {k : Nat} {x0 x1 : D} {S : List O} : callD tl.ct (k + 1) F_hanging_at [x0, x1] S = gcR S (fin (evSs tl.ct (callD tl.ct k) b_hanging_at none [some x0, some x1, none, none] S)) := call_gc (np := 2) (nn := 4) rfl rfl
theorem run_hanging {k : Nat} {x0 x1 : D} {S : List O} : callD tl.ct (k + 1) F_hanging [x0, x1] S = gcR S (fin (evSs tl.ct (callD tl.ct k) b_hanging none [some x0, some x1] S)) := call_gc (np := 2) (nn := 2) rfl rfl
theorem run_looks_from {k : Nat} {x0 x1 x2 x3 : D} {S : List O} : callD tl.ct (k + 1) F_looks_from [x0, x1, x2, x3] S = gcR S (fin (evSs tl.ct (callD tl.ct k) b_looks_from none [some x0, some x1, some x2, some x3, none, none, none] S)) := call_gc (np := 4) (nn := 7) rfl rfl
theorem run_looks_for {k : Nat} {x0 x1 : D} {S : List O} : callD tl.ct (k + 1) F_looks_for [x0, x1] S = gcR S (fin (evSs tl.ct (callD tl.ct k) b_looks_for none [some x0, some x1] S)) := call_gc (np := 2) (nn := 2) rfl rfl
theorem run_looks {k : Nat} {x0 x1 : D} {S : List O} : callD tl.ct (k + 1) F_looks [x0, x1] S = gcR S (fin (evSs tl.ct (callD tl.ct k) b_looks none [some x0, some x1] S)) := call_gc (np := 2) (nn := 2) rfl rfl
theorem run_sum_fact {k : Nat} {x0 : D} {S : List O} : callD tl.ct (k + 1) F_sum_fact [x0] S = gcR S (fin (evSs tl.ct (callD tl.ct k) b_sum_fact none [some x0, none, none, none, none, none, none] S)) := call_gc (np := 1) (nn := 7) rfl rfl
theorem run_unlike_looks {k : Nat} {x0 : D} {S : List O} : callD tl.ct (k + 1) F_unlike_looks [x0] S = gcR S (fin (evSs tl.ct (callD tl.ct k) b_unlike_looks none [some x0, none, none, none, none] S)) := call_gc (np := 1) (nn := 5) rfl rfl
theorem run_all_lots_of_places {k : Nat} {x0 : D} {S : List O} : callD tl.ct (k + 1) F_all_lots_of_places [x0] S = gcR S (fin (evSs tl.ct (callD tl.ct k) b_all_lots_of_places none [some x0, none, none, none] S)) := call_gc (np := 1) (nn := 4) rfl rfl
theorem run_fewest_from {k : Nat} {x0 x1 x2 : D} {S : List O} : callD tl.ct (k + 1) F_fewest_from [x0, x1, x2] S = gcR S (fin (evSs tl.ct (callD tl.ct k) b_fewest_from none [some x0, some x1, some x2, none, none, none, none] S)) := call_gc (np := 3) (nn := 7) rfl rfl
theorem run_tree_from {k : Nat} {x0 x1 x2 : D} {S : List O} : callD tl.ct (k + 1) F_tree_from [x0, x1, x2] S = gcR S (fin (evSs tl.ct (callD tl.ct k) b_tree_from none [some x0, some x1, some x2, none, none, none, none] S)) := call_gc (np := 3) (nn := 7) rfl rfl
theorem run_fewest_looks {k : Nat} {x0 : D} {S : List O} : callD tl.ct (k + 1) F_fewest_looks [x0] S = gcR S (fin (evSs tl.ct (callD tl.ct k) b_fewest_looks none [some x0, none, none] S)) := call_gc (np := 1) (nn := 3) rfl rfl
theorem run_is_look_tree {k : Nat} {x0 x1 x2 : D} {S : List O} : callD tl.ct (k + 1) F_is_look_tree [x0, x1, x2] S = gcR S (fin (evSs tl.ct (callD tl.ct k) b_is_look_tree none [some x0, some x1, some x2, none, none, none, none, none, none, none, none] S)) := call_gc (np := 3) (nn := 11) rfl rfl
theorem run_proof_for {k : Nat} {x0 x1 : D} {S : List O} : callD tl.ct (k + 1) F_proof_for [x0, x1] S = gcR S (fin (evSs tl.ct (callD tl.ct k) b_proof_for none [some x0, some x1, none, none, none, none, none] S)) := call_gc (np := 2) (nn := 7) rfl rfl
theorem run_l_hand {k : Nat} {x0 : D} {S : List O} : callD tl.ct (k + 1) F_l_hand [x0] S = fin (evSs tl.ct (callD tl.ct k) b_l_hand none [some x0, none, none] S) := call_raw (np := 1) (nn := 3) rfl rfl
theorem run_l_draw {k : Nat} {x0 x1 : D} {S : List O} : callD tl.ct (k + 1) F_l_draw [x0, x1] S = gcR S (fin (evSs tl.ct (callD tl.ct k) b_l_draw none [some x0, some x1, none, none, none] S)) := call_gc (np := 2) (nn := 5) rfl rfl
theorem run_l_call {k : Nat} {x0 x1 x2 : D} {S : List O} : callD tl.ct (k + 1) F_l_call [x0, x1, x2] S = gcR S (fin (evSs tl.ct (callD tl.ct k) b_l_call none [some x0, some x1, some x2] S)) := call_gc (np := 3) (nn := 3) rfl rfl
theorem run_l_word {k : Nat} {x0 x1 x2 : D} {S : List O} : callD tl.ct (k + 1) F_l_word [x0, x1, x2] S = gcR S (fin (evSs tl.ct (callD tl.ct k) b_l_word none [some x0, some x1, some x2, none, none, none] S)) := call_gc (np := 3) (nn := 6) rfl rfl
theorem run_l_signs {k : Nat} {x0 x1 x2 : D} {S : List O} : callD tl.ct (k + 1) F_l_signs [x0, x1, x2] S = gcR S (fin (evSs tl.ct (callD tl.ct k) b_l_signs none [some x0, some x1, some x2, none] S)) := call_gc (np := 3) (nn := 4) rfl rfl
theorem run_l_good {k : Nat} {x0 x1 x2 : D} {S : List O} : callD tl.ct (k + 1) F_l_good [x0, x1, x2] S = gcR S (fin (evSs tl.ct (callD tl.ct k) b_l_good none [some x0, some x1, some x2] S)) := call_gc (np := 3) (nn := 3) rfl rfl
theorem run_l_odd_fact {k : Nat} {x0 x1 : D} {S : List O} : callD tl.ct (k + 1) F_l_odd_fact [x0, x1] S = gcR S (fin (evSs tl.ct (callD tl.ct k) b_l_odd_fact none [some x0, some x1, none, none, none] S)) := call_gc (np := 2) (nn := 5) rfl rfl
theorem run_l_odd {k : Nat} {x0 x1 x2 : D} {S : List O} : callD tl.ct (k + 1) F_l_odd [x0, x1, x2] S = gcR S (fin (evSs tl.ct (callD tl.ct k) b_l_odd none [some x0, some x1, some x2, none, none, none, none] S)) := call_gc (np := 3) (nn := 7) rfl rfl
theorem run_law {k : Nat} {x0 : D} {S : List O} : callD tl.ct (k + 1) F_law [x0] S = gcR S (fin (evSs tl.ct (callD tl.ct k) b_law none [some x0, none, none, none, none, none, none, none, none, none] S)) := call_gc (np := 1) (nn := 10) rfl rfl
@[simp] theorem xfs_SlipError : tl.ct.xfs C_SlipError = [] := rfl
@[simp] theorem xis_SlipError_BadDepth {fs : List Nat} {vs : List D} : xisB tl.ct ⟨C_SlipError, fs, vs⟩ (.own C_BadDepth) = some false := rfl
@[simp] theorem xis_SlipError_BadFact {fs : List Nat} {vs : List D} : xisB tl.ct ⟨C_SlipError, fs, vs⟩ (.own C_BadFact) = some false := rfl
@[simp] theorem xis_SlipError_BadRow {fs : List Nat} {vs : List D} : xisB tl.ct ⟨C_SlipError, fs, vs⟩ (.own C_BadRow) = some false := rfl
@[simp] theorem xis_SlipError_BadStanding {fs : List Nat} {vs : List D} : xisB tl.ct ⟨C_SlipError, fs, vs⟩ (.own C_BadStanding) = some false := rfl
@[simp] theorem xis_SlipError_SlipError {fs : List Nat} {vs : List D} : xisB tl.ct ⟨C_SlipError, fs, vs⟩ (.own C_SlipError) = some true := rfl
@[simp] theorem xis_SlipError_value {fs : List Nat} {vs : List D} : xisB tl.ct ⟨C_SlipError, fs, vs⟩ .value = some true := rfl
@[simp] theorem xfs_BadStanding : tl.ct.xfs C_BadStanding = [] := rfl
@[simp] theorem xis_BadStanding_BadDepth {fs : List Nat} {vs : List D} : xisB tl.ct ⟨C_BadStanding, fs, vs⟩ (.own C_BadDepth) = some false := rfl
@[simp] theorem xis_BadStanding_BadFact {fs : List Nat} {vs : List D} : xisB tl.ct ⟨C_BadStanding, fs, vs⟩ (.own C_BadFact) = some false := rfl
@[simp] theorem xis_BadStanding_BadRow {fs : List Nat} {vs : List D} : xisB tl.ct ⟨C_BadStanding, fs, vs⟩ (.own C_BadRow) = some false := rfl
@[simp] theorem xis_BadStanding_BadStanding {fs : List Nat} {vs : List D} : xisB tl.ct ⟨C_BadStanding, fs, vs⟩ (.own C_BadStanding) = some true := rfl
@[simp] theorem xis_BadStanding_SlipError {fs : List Nat} {vs : List D} : xisB tl.ct ⟨C_BadStanding, fs, vs⟩ (.own C_SlipError) = some true := rfl
@[simp] theorem xis_BadStanding_value {fs : List Nat} {vs : List D} : xisB tl.ct ⟨C_BadStanding, fs, vs⟩ .value = some true := rfl
@[simp] theorem xfs_BadDepth : tl.ct.xfs C_BadDepth = [A_depth] := rfl
@[simp] theorem xis_BadDepth_BadDepth {fs : List Nat} {vs : List D} : xisB tl.ct ⟨C_BadDepth, fs, vs⟩ (.own C_BadDepth) = some true := rfl
@[simp] theorem xis_BadDepth_BadFact {fs : List Nat} {vs : List D} : xisB tl.ct ⟨C_BadDepth, fs, vs⟩ (.own C_BadFact) = some false := rfl
@[simp] theorem xis_BadDepth_BadRow {fs : List Nat} {vs : List D} : xisB tl.ct ⟨C_BadDepth, fs, vs⟩ (.own C_BadRow) = some false := rfl
@[simp] theorem xis_BadDepth_BadStanding {fs : List Nat} {vs : List D} : xisB tl.ct ⟨C_BadDepth, fs, vs⟩ (.own C_BadStanding) = some false := rfl
@[simp] theorem xis_BadDepth_SlipError {fs : List Nat} {vs : List D} : xisB tl.ct ⟨C_BadDepth, fs, vs⟩ (.own C_SlipError) = some true := rfl
@[simp] theorem xis_BadDepth_value {fs : List Nat} {vs : List D} : xisB tl.ct ⟨C_BadDepth, fs, vs⟩ .value = some true := rfl
@[simp] theorem xfs_BadRow : tl.ct.xfs C_BadRow = [] := rfl
@[simp] theorem xis_BadRow_BadDepth {fs : List Nat} {vs : List D} : xisB tl.ct ⟨C_BadRow, fs, vs⟩ (.own C_BadDepth) = some false := rfl
@[simp] theorem xis_BadRow_BadFact {fs : List Nat} {vs : List D} : xisB tl.ct ⟨C_BadRow, fs, vs⟩ (.own C_BadFact) = some false := rfl
@[simp] theorem xis_BadRow_BadRow {fs : List Nat} {vs : List D} : xisB tl.ct ⟨C_BadRow, fs, vs⟩ (.own C_BadRow) = some true := rfl
@[simp] theorem xis_BadRow_BadStanding {fs : List Nat} {vs : List D} : xisB tl.ct ⟨C_BadRow, fs, vs⟩ (.own C_BadStanding) = some false := rfl
@[simp] theorem xis_BadRow_SlipError {fs : List Nat} {vs : List D} : xisB tl.ct ⟨C_BadRow, fs, vs⟩ (.own C_SlipError) = some true := rfl
@[simp] theorem xis_BadRow_value {fs : List Nat} {vs : List D} : xisB tl.ct ⟨C_BadRow, fs, vs⟩ .value = some true := rfl
@[simp] theorem xfs_BadFact : tl.ct.xfs C_BadFact = [] := rfl
@[simp] theorem xis_BadFact_BadDepth {fs : List Nat} {vs : List D} : xisB tl.ct ⟨C_BadFact, fs, vs⟩ (.own C_BadDepth) = some false := rfl
@[simp] theorem xis_BadFact_BadFact {fs : List Nat} {vs : List D} : xisB tl.ct ⟨C_BadFact, fs, vs⟩ (.own C_BadFact) = some true := rfl
@[simp] theorem xis_BadFact_BadRow {fs : List Nat} {vs : List D} : xisB tl.ct ⟨C_BadFact, fs, vs⟩ (.own C_BadRow) = some false := rfl
@[simp] theorem xis_BadFact_BadStanding {fs : List Nat} {vs : List D} : xisB tl.ct ⟨C_BadFact, fs, vs⟩ (.own C_BadStanding) = some false := rfl
@[simp] theorem xis_BadFact_SlipError {fs : List Nat} {vs : List D} : xisB tl.ct ⟨C_BadFact, fs, vs⟩ (.own C_SlipError) = some true := rfl
@[simp] theorem xis_BadFact_value {fs : List Nat} {vs : List D} : xisB tl.ct ⟨C_BadFact, fs, vs⟩ .value = some true := rfl
end LK82
end
section
set_option Elab.async false
set_option linter.all false
set_option maxRecDepth 100000
set_option maxHeartbeats 0
set_option autoImplicit false
namespace LK82
open PySem PySem.Spec PyProof.Rows L2 Ev
def d0 : He.DefD := ⟨("is_integer", none), "is_integer", "is_integer", defArgs (top 9), defBody (top 9), defScope (top 9), [], []⟩
theorem sc0 : FnScope ["thing"] ["thing"] (defScope (top 9)) := ⟨rfl, rfl, rfl, by decide +kernel, rfl, by decide +kernel, by decide +kernel⟩
def d1 : He.DefD := ⟨("is_row", none), "is_row", "is_row", defArgs (top 10), defBody (top 10), defScope (top 10), [], []⟩
theorem sc1 : FnScope ["thing", "sign"] ["thing"] (defScope (top 10)) := ⟨rfl, rfl, rfl, by decide +kernel, rfl, by decide +kernel, by decide +kernel⟩
def d2 : He.DefD := ⟨("is_row_of_length", none), "is_row_of_length", "is_row_of_length", defArgs (top 11), defBody (top 11), defScope (top 11), [], []⟩
theorem sc2 : FnScope ["thing", "length"] ["thing", "length"] (defScope (top 11)) := ⟨rfl, rfl, rfl, by decide +kernel, rfl, by decide +kernel, by decide +kernel⟩
def d3 : He.DefD := ⟨("is_marked", none), "is_marked", "is_marked", defArgs (top 12), defBody (top 12), defScope (top 12), [], []⟩
theorem sc3 : FnScope ["thing", "length", "mark"] ["thing", "length"] (defScope (top 12)) := ⟨rfl, rfl, rfl, by decide +kernel, rfl, by decide +kernel, by decide +kernel⟩
def d4 : He.DefD := ⟨("with_sign", none), "with_sign", "with_sign", defArgs (top 13), defBody (top 13), defScope (top 13), [], []⟩
theorem sc4 : FnScope ["standing", "place", "sign"] ["standing", "place", "sign"] (defScope (top 13)) := ⟨rfl, rfl, rfl, by decide +kernel, rfl, by decide +kernel, by decide +kernel⟩
def d5 : He.DefD := ⟨("odd_sign", none), "odd_sign", "odd_sign", defArgs (top 14), defBody (top 14), defScope (top 14), [], []⟩
theorem sc5 : FnScope ["number"] ["number"] (defScope (top 14)) := ⟨rfl, rfl, rfl, by decide +kernel, rfl, by decide +kernel, by decide +kernel⟩
def d6 : He.DefD := ⟨("places_of_fact", none), "places_of_fact", "places_of_fact", defArgs (top 17), defBody (top 17), defScope (top 17), [], []⟩
theorem sc6 : FnScope ["fact", "many"] ["fact"] (defScope (top 17)) := ⟨rfl, rfl, rfl, by decide +kernel, rfl, by decide +kernel, by decide +kernel⟩
def d7 : He.DefD := ⟨("check_fact", none), "check_fact", "check_fact", defArgs (top 18), defBody (top 18), defScope (top 18), [], []⟩
theorem sc7 : FnScope ["fact", "many"] ["fact"] (defScope (top 18)) := ⟨rfl, rfl, rfl, by decide +kernel, rfl, by decide +kernel, by decide +kernel⟩
def d8 : He.DefD := ⟨("sign_for", none), "sign_for", "sign_for", defArgs (top 19), defBody (top 19), defScope (top 19), [], []⟩
theorem sc8 : FnScope ["fact", "row"] ["fact", "row"] (defScope (top 19)) := ⟨rfl, rfl, rfl, by decide +kernel, rfl, by decide +kernel, by decide +kernel⟩
def d9 : He.DefD := ⟨("rows_fitting", none), "rows_fitting", "rows_fitting", defArgs (top 20), defBody (top 20), defScope (top 20), [], []⟩
theorem sc9 : FnScope ["standing", "found", "mark", "signs", "row", "sign"] ["standing"] (defScope (top 20)) := ⟨rfl, rfl, rfl, by decide +kernel, rfl, by decide +kernel, by decide +kernel⟩
def d10 : He.DefD := ⟨("hangs_on", none), "hangs_on", "hangs_on", defArgs (top 21), defBody (top 21), defScope (top 21), [], []⟩
theorem sc10 : FnScope ["fact", "standing", "place", "row"] ["fact", "standing", "place"] (defScope (top 21)) := ⟨rfl, rfl, rfl, by decide +kernel, rfl, by decide +kernel, by decide +kernel⟩
def d11 : He.DefD := ⟨("hanging_at", none), "hanging_at", "hanging_at", defArgs (top 22), defBody (top 22), defScope (top 22), [], []⟩
theorem sc11 : FnScope ["fact", "standing", "place", "mark"] ["fact", "standing"] (defScope (top 22)) := ⟨rfl, rfl, rfl, by decide +kernel, rfl, by decide +kernel, by decide +kernel⟩
def d12 : He.DefD := ⟨("hanging", none), "hanging", "hanging", defArgs (top 23), defBody (top 23), defScope (top 23), [], []⟩
theorem sc12 : FnScope ["fact", "standing"] ["fact", "standing"] (defScope (top 23)) := ⟨rfl, rfl, rfl, by decide +kernel, rfl, by decide +kernel, by decide +kernel⟩
def d13 : He.DefD := ⟨("looks_from", none), "looks_from", "looks_from", defArgs (top 24), defBody (top 24), defScope (top 24), [], []⟩
theorem sc13 : FnScope ["known", "fact", "row", "standing", "found", "place", "pair"] ["known", "fact", "row", "standing"] (defScope (top 24)) := ⟨rfl, rfl, rfl, by decide +kernel, rfl, by decide +kernel, by decide +kernel⟩
def d14 : He.DefD := ⟨("looks_for", none), "looks_for", "looks_for", defArgs (top 25), defBody (top 25), defScope (top 25), [], []⟩
theorem sc14 : FnScope ["fact", "row"] ["fact", "row"] (defScope (top 25)) := ⟨rfl, rfl, rfl, by decide +kernel, rfl, by decide +kernel, by decide +kernel⟩
def d15 : He.DefD := ⟨("looks", none), "looks", "looks", defArgs (top 26), defBody (top 26), defScope (top 26), [], []⟩
theorem sc15 : FnScope ["fact", "row"] ["fact", "row"] (defScope (top 26)) := ⟨rfl, rfl, rfl, by decide +kernel, rfl, by decide +kernel, by decide +kernel⟩
def d16 : He.DefD := ⟨("sum_fact", none), "sum_fact", "sum_fact", defArgs (top 27), defBody (top 27), defScope (top 27), [], []⟩
theorem sc16 : FnScope ["fact", "many", "places", "first", "row", "total", "place"] ["fact"] (defScope (top 27)) := ⟨rfl, rfl, rfl, by decide +kernel, rfl, by decide +kernel, by decide +kernel⟩
def d17 : He.DefD := ⟨("unlike_looks", none), "unlike_looks", "unlike_looks", defArgs (top 28), defBody (top 28), defScope (top 28), [], []⟩
theorem sc17 : FnScope ["fact", "rows", "first", "row", "pair"] ["fact"] (defScope (top 28)) := ⟨rfl, rfl, rfl, by decide +kernel, rfl, by decide +kernel, by decide +kernel⟩
def d18 : He.DefD := ⟨("all_lots_of_places", none), "all_lots_of_places", "all_lots_of_places", defArgs (top 30), defBody (top 30), defScope (top 30), [], []⟩
theorem sc18 : FnScope ["many", "found", "place", "places"] ["many"] (defScope (top 30)) := ⟨rfl, rfl, rfl, by decide +kernel, rfl, by decide +kernel, by decide +kernel⟩
def d19 : He.DefD := ⟨("fewest_from", none), "fewest_from", "fewest_from", defArgs (top 32), defBody (top 32), defScope (top 32), [], []⟩
theorem sc19 : FnScope ["known", "fact", "standing", "best", "place", "number", "sign"] ["known", "fact", "standing"] (defScope (top 32)) := ⟨rfl, rfl, rfl, by decide +kernel, rfl, by decide +kernel, by decide +kernel⟩
def d20 : He.DefD := ⟨("tree_from", none), "tree_from", "tree_from", defArgs (top 33), defBody (top 33), defScope (top 33), [], []⟩
theorem sc20 : FnScope ["known", "fact", "standing", "place", "parts", "sign", "part"] ["known", "fact", "standing"] (defScope (top 33)) := ⟨rfl, rfl, rfl, by decide +kernel, rfl, by decide +kernel, by decide +kernel⟩
def d21 : He.DefD := ⟨("fewest_looks", none), "fewest_looks", "fewest_looks", defArgs (top 34), defBody (top 34), defScope (top 34), [], []⟩
theorem sc21 : FnScope ["fact", "begin", "known"] ["fact"] (defScope (top 34)) := ⟨rfl, rfl, rfl, by decide +kernel, rfl, by decide +kernel, by decide +kernel⟩
def d22 : He.DefD := ⟨("is_look_tree", none), "is_look_tree", "is_look_tree", defArgs (top 35), defBody (top 35), defScope (top 35), [], []⟩
theorem sc22 : FnScope ["fact", "depth", "thing", "many", "waiting", "places", "standing", "left", "tree", "sign", "later"] ["fact", "depth", "thing"] (defScope (top 35)) := ⟨rfl, rfl, rfl, by decide +kernel, rfl, by decide +kernel, by decide +kernel⟩
def d23 : He.DefD := ⟨("proof_for", none), "proof_for", "proof_for", defArgs (top 36), defBody (top 36), defScope (top 36), [], []⟩
theorem sc23 : FnScope ["fact", "row", "many", "size", "places", "standing", "place"] ["fact", "row"] (defScope (top 36)) := ⟨rfl, rfl, rfl, by decide +kernel, rfl, by decide +kernel, by decide +kernel⟩
def d24 : He.DefD := ⟨("_law_hand", none), "_law_hand", "_law_hand", defArgs (top 38), defBody (top 38), defScope (top 38), [], []⟩
theorem sc24 : FnScope ["_law_script", "_law_cells", "_law_cell"] ["_law_script"] (defScope (top 38)) := ⟨rfl, rfl, rfl, by decide +kernel, rfl, by decide +kernel, by decide +kernel⟩
def d25 : He.DefD := ⟨("_law_draw", none), "_law_draw", "_law_draw", defArgs (top 39), defBody (top 39), defScope (top 39), [], []⟩
theorem sc25 : FnScope ["_law_hand_here", "_law_many", "_law_number", "_law_cell", "_law_digit"] ["_law_hand_here", "_law_many"] (defScope (top 39)) := ⟨rfl, rfl, rfl, by decide +kernel, rfl, by decide +kernel, by decide +kernel⟩
def d26 : He.DefD := ⟨("_law_call", none), "_law_call", "_law_call", defArgs (top 40), defBody (top 40), defScope (top 40), [], []⟩
theorem sc26 : FnScope ["_law_which", "_law_fact", "_law_other"] ["_law_which", "_law_fact", "_law_other"] (defScope (top 40)) := ⟨rfl, rfl, rfl, by decide +kernel, rfl, by decide +kernel, by decide +kernel⟩
def d27 : He.DefD := ⟨("_law_word", none), "_law_word", "_law_word", defArgs (top 41), defBody (top 41), defScope (top 41), [], []⟩
theorem sc27 : FnScope ["_law_which", "_law_fact", "_law_other", "_law_word_here", "e", "_law_flags"] ["_law_which", "_law_fact", "_law_other"] (defScope (top 41)) := ⟨rfl, rfl, rfl, by decide +kernel, rfl, by decide +kernel, by decide +kernel⟩
def d28 : He.DefD := ⟨("_law_signs", none), "_law_signs", "_law_signs", defArgs (top 42), defBody (top 42), defScope (top 42), [], []⟩
theorem sc28 : FnScope ["_law_hand_here", "_law_many", "_law_marks", "_law_k"] ["_law_hand_here", "_law_many", "_law_marks"] (defScope (top 42)) := ⟨rfl, rfl, rfl, by decide +kernel, rfl, by decide +kernel, by decide +kernel⟩
def d29 : He.DefD := ⟨("_law_good", none), "_law_good", "_law_good", defArgs (top 43), defBody (top 43), defScope (top 43), [], []⟩
theorem sc29 : FnScope ["_law_hand_here", "_law_which", "_law_places"] ["_law_hand_here", "_law_which", "_law_places"] (defScope (top 43)) := ⟨rfl, rfl, rfl, by decide +kernel, rfl, by decide +kernel, by decide +kernel⟩
def d30 : He.DefD := ⟨("_law_odd_fact", none), "_law_odd_fact", "_law_odd_fact", defArgs (top 44), defBody (top 44), defScope (top 44), [], []⟩
theorem sc30 : FnScope ["_law_hand_here", "_law_fact", "_law_at", "_law_odd_here", "_law_things"] ["_law_hand_here", "_law_fact"] (defScope (top 44)) := ⟨rfl, rfl, rfl, by decide +kernel, rfl, by decide +kernel, by decide +kernel⟩
def d31 : He.DefD := ⟨("_law_odd", none), "_law_odd", "_law_odd", defArgs (top 45), defBody (top 45), defScope (top 45), [], []⟩
theorem sc31 : FnScope ["_law_hand_here", "_law_which", "_law_places", "_law_row", "_law_at", "_law_marks", "_law_odd_here"] ["_law_hand_here", "_law_which", "_law_places"] (defScope (top 45)) := ⟨rfl, rfl, rfl, by decide +kernel, rfl, by decide +kernel, by decide +kernel⟩
def d32 : He.DefD := ⟨("law", none), "law", "law", defArgs (top 46), defBody (top 46), defScope (top 46), [], []⟩
theorem sc32 : FnScope ["_law_script", "_law_hand_here", "_law_turn", "_law_places", "_law_which", "_law_fact", "_law_good_here", "_law_odd_here", "_law_wrong", "_law_due"] ["_law_script"] (defScope (top 46)) := ⟨rfl, rfl, rfl, by decide +kernel, rfl, by decide +kernel, by decide +kernel⟩
abbrev x0 : Stmt := inClass (top 3) 0
def d33 : He.DefD := ⟨("BadDepth", some "__init__"), "__init__", "BadDepth.__init__", defArgs x0, defBody x0, defScope x0, [], []⟩
theorem sc33 : FnScope ["self", "depth"] ["self", "depth"] (defScope x0) := ⟨rfl, rfl, rfl, by decide +kernel, rfl, by decide +kernel, by decide +kernel⟩
def fn : List He.DefD := ([d0, d1, d2, d3, d4, d5, d6, d7, d8, d9, d10, d11, d12, d13, d14, d15, d16, d17, d18, d19] : List He.DefD) ++ ([d20, d21, d22, d23, d24, d25, d26, d27, d28, d29, d30, d31, d32, d33] : List He.DefD)
def ex (K : PySem.W.Frag) : Bool := gkB tl K && (tb.fn.all fun x => decide (PySem.W.nsIn K mainGlobals x = some (some (.ref (He.ga K x)))))
abbrev Ro : PySem.W.OpenRow := PySem.W.OpenLaw.row PySem.Challenge.rw_likeslips_k82_facts_and_looks_refused
abbrev hk : PySem.W.Hook := He.hookX 6 [] fn [] [] ex
def ob (s : PySem.W.SharedT) : He.AlX := He.obsX 6 [] fn [] [] ex (HandSHeadRun.getT s)
theorem ob_eq (s : PySem.W.SharedT) : ob s = hk.obs s.abs := He.obsX_eq (HandSHeadRun.getT_eq s)
def names : List PySem.Str := ((["SlipError", "BadStanding", "BadDepth", "BadRow", "BadFact", "SIGNS", "DOT", "is_integer", "is_row", "is_row_of_length", "is_marked", "with_sign", "odd_sign", "MOST_FACT_PLACES", "places_of_fact", "check_fact", "sign_for", "rows_fitting", "hangs_on", "hanging_at"] : List PySem.Str) ++ (["hanging", "looks_from", "looks_for", "looks", "sum_fact", "unlike_looks", "all_lots_of_places", "fewest_from", "tree_from", "fewest_looks", "is_look_tree", "proof_for", "_law_hand", "_law_draw", "_law_call", "_law_word", "_law_signs", "_law_good", "_law_odd_fact", "_law_odd"] : List PySem.Str))
theorem run (w : World) : HandSHeadRun.RunEq Ro (PySem.W.view Ro.prog [46]) hk ob 6000 names w := by
  intro os
  kernel_rfl
end LK82
end
section
set_option Elab.async false
set_option linter.all false
set_option maxRecDepth 100000
set_option maxHeartbeats 4000000
set_option autoImplicit false
namespace LK82
open PySem PySem.Spec PyProof.Rows L2 Ev
section
variable {P : Program} {w : World} {K : PySem.W.Frag} {h : Heap} {mg : Str → Option Value}
theorem df (X : K.In h) (G : h.Ns mainGlobals mg) (c : He.SaysX [] fn [] [] ex w h K) : ∀ (f : Nat) (x : Str), tb.fn[f]? = some x → ∃ fa, mg x = some (.ref fa) ∧ DefOk K tl.ct tb f fa := by
  have hfn := (and2 c.more).2
  intro f x hx
  have hm : mg x = some (.ref (He.ga K x)) := PySem.W.mg_of X G (of_decide_eq_true (List.all_eq_true.mp hfn x (List.mem_of_getElem? hx)))
  refine ⟨He.ga K x, hm, ?_⟩
  match f, hx with
  | 0, hx =>
    cases hx
    obtain ⟨fd, F⟩ := c.t.d.def_ 0 (d := d0) rfl
    exact ⟨_, _, _, _, _, _, fd, _, _, ⟨1, 1, false, b_is_integer⟩, F, sc0, F.bindsN fun _ _ _ _ _ _ us hl => (match us, hl with | [_], _ => rfl), rfl, rfl, rfl, ok_is_integer⟩
  | 1, hx =>
    cases hx
    obtain ⟨fd, F⟩ := c.t.d.def_ 1 (d := d1) rfl
    exact ⟨_, _, _, _, _, _, fd, _, _, ⟨1, 2, false, b_is_row⟩, F, sc1, F.bindsN fun _ _ _ _ _ _ us hl => (match us, hl with | [_], _ => rfl), rfl, rfl, rfl, ok_is_row⟩
  | 2, hx =>
    cases hx
    obtain ⟨fd, F⟩ := c.t.d.def_ 2 (d := d2) rfl
    exact ⟨_, _, _, _, _, _, fd, _, _, ⟨2, 2, false, b_is_row_of_length⟩, F, sc2, F.bindsN fun _ _ _ _ _ _ us hl => (match us, hl with | [_, _], _ => rfl), rfl, rfl, rfl, ok_is_row_of_length⟩
  | 3, hx =>
    cases hx
    obtain ⟨fd, F⟩ := c.t.d.def_ 3 (d := d3) rfl
    exact ⟨_, _, _, _, _, _, fd, _, _, ⟨2, 3, false, b_is_marked⟩, F, sc3, F.bindsN fun _ _ _ _ _ _ us hl => (match us, hl with | [_, _], _ => rfl), rfl, rfl, rfl, ok_is_marked⟩
  | 4, hx =>
    cases hx
    obtain ⟨fd, F⟩ := c.t.d.def_ 4 (d := d4) rfl
    exact ⟨_, _, _, _, _, _, fd, _, _, ⟨3, 3, false, b_with_sign⟩, F, sc4, F.bindsN fun _ _ _ _ _ _ us hl => (match us, hl with | [_, _, _], _ => rfl), rfl, rfl, rfl, ok_with_sign⟩
  | 5, hx =>
    cases hx
    obtain ⟨fd, F⟩ := c.t.d.def_ 5 (d := d5) rfl
    exact ⟨_, _, _, _, _, _, fd, _, _, ⟨1, 1, false, b_odd_sign⟩, F, sc5, F.bindsN fun _ _ _ _ _ _ us hl => (match us, hl with | [_], _ => rfl), rfl, rfl, rfl, ok_odd_sign⟩
  | 6, hx =>
    cases hx
    obtain ⟨fd, F⟩ := c.t.d.def_ 6 (d := d6) rfl
    exact ⟨_, _, _, _, _, _, fd, _, _, ⟨1, 2, false, b_places_of_fact⟩, F, sc6, F.bindsN fun _ _ _ _ _ _ us hl => (match us, hl with | [_], _ => rfl), rfl, rfl, rfl, ok_places_of_fact⟩
  | 7, hx =>
    cases hx
    obtain ⟨fd, F⟩ := c.t.d.def_ 7 (d := d7) rfl
    exact ⟨_, _, _, _, _, _, fd, _, _, ⟨1, 2, false, b_check_fact⟩, F, sc7, F.bindsN fun _ _ _ _ _ _ us hl => (match us, hl with | [_], _ => rfl), rfl, rfl, rfl, ok_check_fact⟩
  | 8, hx =>
    cases hx
    obtain ⟨fd, F⟩ := c.t.d.def_ 8 (d := d8) rfl
    exact ⟨_, _, _, _, _, _, fd, _, _, ⟨2, 2, false, b_sign_for⟩, F, sc8, F.bindsN fun _ _ _ _ _ _ us hl => (match us, hl with | [_, _], _ => rfl), rfl, rfl, rfl, ok_sign_for⟩
  | 9, hx =>
    cases hx
    obtain ⟨fd, F⟩ := c.t.d.def_ 9 (d := d9) rfl
    exact ⟨_, _, _, _, _, _, fd, _, _, ⟨1, 6, false, b_rows_fitting⟩, F, sc9, F.bindsN fun _ _ _ _ _ _ us hl => (match us, hl with | [_], _ => rfl), rfl, rfl, rfl, ok_rows_fitting⟩
  | 10, hx =>
    cases hx
    obtain ⟨fd, F⟩ := c.t.d.def_ 10 (d := d10) rfl
    exact ⟨_, _, _, _, _, _, fd, _, _, ⟨3, 4, false, b_hangs_on⟩, F, sc10, F.bindsN fun _ _ _ _ _ _ us hl => (match us, hl with | [_, _, _], _ => rfl), rfl, rfl, rfl, ok_hangs_on⟩
  | 11, hx =>
    cases hx
    obtain ⟨fd, F⟩ := c.t.d.def_ 11 (d := d11) rfl
    exact ⟨_, _, _, _, _, _, fd, _, _, ⟨2, 4, false, b_hanging_at⟩, F, sc11, F.bindsN fun _ _ _ _ _ _ us hl => (match us, hl with | [_, _], _ => rfl), rfl, rfl, rfl, ok_hanging_at⟩
  | 12, hx =>
    cases hx
    obtain ⟨fd, F⟩ := c.t.d.def_ 12 (d := d12) rfl
    exact ⟨_, _, _, _, _, _, fd, _, _, ⟨2, 2, false, b_hanging⟩, F, sc12, F.bindsN fun _ _ _ _ _ _ us hl => (match us, hl with | [_, _], _ => rfl), rfl, rfl, rfl, ok_hanging⟩
  | 13, hx =>
    cases hx
    obtain ⟨fd, F⟩ := c.t.d.def_ 13 (d := d13) rfl
    exact ⟨_, _, _, _, _, _, fd, _, _, ⟨4, 7, false, b_looks_from⟩, F, sc13, F.bindsN fun _ _ _ _ _ _ us hl => (match us, hl with | [_, _, _, _], _ => rfl), rfl, rfl, rfl, ok_looks_from⟩
  | 14, hx =>
    cases hx
    obtain ⟨fd, F⟩ := c.t.d.def_ 14 (d := d14) rfl
    exact ⟨_, _, _, _, _, _, fd, _, _, ⟨2, 2, false, b_looks_for⟩, F, sc14, F.bindsN fun _ _ _ _ _ _ us hl => (match us, hl with | [_, _], _ => rfl), rfl, rfl, rfl, ok_looks_for⟩
  | 15, hx =>
    cases hx
    obtain ⟨fd, F⟩ := c.t.d.def_ 15 (d := d15) rfl
    exact ⟨_, _, _, _, _, _, fd, _, _, ⟨2, 2, false, b_looks⟩, F, sc15, F.bindsN fun _ _ _ _ _ _ us hl => (match us, hl with | [_, _], _ => rfl), rfl, rfl, rfl, ok_looks⟩
  | 16, hx =>
    cases hx
    obtain ⟨fd, F⟩ := c.t.d.def_ 16 (d := d16) rfl
    exact ⟨_, _, _, _, _, _, fd, _, _, ⟨1, 7, false, b_sum_fact⟩, F, sc16, F.bindsN fun _ _ _ _ _ _ us hl => (match us, hl with | [_], _ => rfl), rfl, rfl, rfl, ok_sum_fact⟩
  | 17, hx =>
    cases hx
    obtain ⟨fd, F⟩ := c.t.d.def_ 17 (d := d17) rfl
    exact ⟨_, _, _, _, _, _, fd, _, _, ⟨1, 5, false, b_unlike_looks⟩, F, sc17, F.bindsN fun _ _ _ _ _ _ us hl => (match us, hl with | [_], _ => rfl), rfl, rfl, rfl, ok_unlike_looks⟩
  | 18, hx =>
    cases hx
    obtain ⟨fd, F⟩ := c.t.d.def_ 18 (d := d18) rfl
    exact ⟨_, _, _, _, _, _, fd, _, _, ⟨1, 4, false, b_all_lots_of_places⟩, F, sc18, F.bindsN fun _ _ _ _ _ _ us hl => (match us, hl with | [_], _ => rfl), rfl, rfl, rfl, ok_all_lots_of_places⟩
  | 19, hx =>
    cases hx
    obtain ⟨fd, F⟩ := c.t.d.def_ 19 (d := d19) rfl
    exact ⟨_, _, _, _, _, _, fd, _, _, ⟨3, 7, false, b_fewest_from⟩, F, sc19, F.bindsN fun _ _ _ _ _ _ us hl => (match us, hl with | [_, _, _], _ => rfl), rfl, rfl, rfl, ok_fewest_from⟩
  | 20, hx =>
    cases hx
    obtain ⟨fd, F⟩ := c.t.d.def_ 20 (d := d20) rfl
    exact ⟨_, _, _, _, _, _, fd, _, _, ⟨3, 7, false, b_tree_from⟩, F, sc20, F.bindsN fun _ _ _ _ _ _ us hl => (match us, hl with | [_, _, _], _ => rfl), rfl, rfl, rfl, ok_tree_from⟩
  | 21, hx =>
    cases hx
    obtain ⟨fd, F⟩ := c.t.d.def_ 21 (d := d21) rfl
    exact ⟨_, _, _, _, _, _, fd, _, _, ⟨1, 3, false, b_fewest_looks⟩, F, sc21, F.bindsN fun _ _ _ _ _ _ us hl => (match us, hl with | [_], _ => rfl), rfl, rfl, rfl, ok_fewest_looks⟩
  | 22, hx =>
    cases hx
    obtain ⟨fd, F⟩ := c.t.d.def_ 22 (d := d22) rfl
    exact ⟨_, _, _, _, _, _, fd, _, _, ⟨3, 11, false, b_is_look_tree⟩, F, sc22, F.bindsN fun _ _ _ _ _ _ us hl => (match us, hl with | [_, _, _], _ => rfl), rfl, rfl, rfl, ok_is_look_tree⟩
  | 23, hx =>
    cases hx
    obtain ⟨fd, F⟩ := c.t.d.def_ 23 (d := d23) rfl
    exact ⟨_, _, _, _, _, _, fd, _, _, ⟨2, 7, false, b_proof_for⟩, F, sc23, F.bindsN fun _ _ _ _ _ _ us hl => (match us, hl with | [_, _], _ => rfl), rfl, rfl, rfl, ok_proof_for⟩
  | 24, hx =>
    cases hx
    obtain ⟨fd, F⟩ := c.t.d.def_ 24 (d := d24) rfl
    exact ⟨_, _, _, _, _, _, fd, _, _, ⟨1, 3, true, b_l_hand⟩, F, sc24, F.bindsN fun _ _ _ _ _ _ us hl => (match us, hl with | [_], _ => rfl), rfl, rfl, rfl, ok_l_hand⟩
  | 25, hx =>
    cases hx
    obtain ⟨fd, F⟩ := c.t.d.def_ 25 (d := d25) rfl
    exact ⟨_, _, _, _, _, _, fd, _, _, ⟨2, 5, false, b_l_draw⟩, F, sc25, F.bindsN fun _ _ _ _ _ _ us hl => (match us, hl with | [_, _], _ => rfl), rfl, rfl, rfl, ok_l_draw⟩
  | 26, hx =>
    cases hx
    obtain ⟨fd, F⟩ := c.t.d.def_ 26 (d := d26) rfl
    exact ⟨_, _, _, _, _, _, fd, _, _, ⟨3, 3, false, b_l_call⟩, F, sc26, F.bindsN fun _ _ _ _ _ _ us hl => (match us, hl with | [_, _, _], _ => rfl), rfl, rfl, rfl, ok_l_call⟩
  | 27, hx =>
    cases hx
    obtain ⟨fd, F⟩ := c.t.d.def_ 27 (d := d27) rfl
    exact ⟨_, _, _, _, _, _, fd, _, _, ⟨3, 6, false, b_l_word⟩, F, sc27, F.bindsN fun _ _ _ _ _ _ us hl => (match us, hl with | [_, _, _], _ => rfl), rfl, rfl, rfl, ok_l_word⟩
  | 28, hx =>
    cases hx
    obtain ⟨fd, F⟩ := c.t.d.def_ 28 (d := d28) rfl
    exact ⟨_, _, _, _, _, _, fd, _, _, ⟨3, 4, false, b_l_signs⟩, F, sc28, F.bindsN fun _ _ _ _ _ _ us hl => (match us, hl with | [_, _, _], _ => rfl), rfl, rfl, rfl, ok_l_signs⟩
  | 29, hx =>
    cases hx
    obtain ⟨fd, F⟩ := c.t.d.def_ 29 (d := d29) rfl
    exact ⟨_, _, _, _, _, _, fd, _, _, ⟨3, 3, false, b_l_good⟩, F, sc29, F.bindsN fun _ _ _ _ _ _ us hl => (match us, hl with | [_, _, _], _ => rfl), rfl, rfl, rfl, ok_l_good⟩
  | 30, hx =>
    cases hx
    obtain ⟨fd, F⟩ := c.t.d.def_ 30 (d := d30) rfl
    exact ⟨_, _, _, _, _, _, fd, _, _, ⟨2, 5, false, b_l_odd_fact⟩, F, sc30, F.bindsN fun _ _ _ _ _ _ us hl => (match us, hl with | [_, _], _ => rfl), rfl, rfl, rfl, ok_l_odd_fact⟩
  | 31, hx =>
    cases hx
    obtain ⟨fd, F⟩ := c.t.d.def_ 31 (d := d31) rfl
    exact ⟨_, _, _, _, _, _, fd, _, _, ⟨3, 7, false, b_l_odd⟩, F, sc31, F.bindsN fun _ _ _ _ _ _ us hl => (match us, hl with | [_, _, _], _ => rfl), rfl, rfl, rfl, ok_l_odd⟩
  | 32, hx =>
    cases hx
    obtain ⟨fd, F⟩ := c.t.d.def_ 32 (d := d32) rfl
    exact ⟨_, _, _, _, _, _, fd, _, _, ⟨1, 10, false, b_law⟩, F, sc32, F.bindsN fun _ _ _ _ _ _ us hl => (match us, hl with | [_], _ => rfl), rfl, rfl, rfl, ok_law⟩
  | n + 33, hx => exact absurd hx (by simp [tb])
theorem xi (base : Heap) (c : He.SaysX [] fn [] [] ex w h K) : ∀ q ∈ tl.xin, ∃ fd, FnOk P w K mg base (L2.CX P w) 1 (He.ma K (clA tl K q.c) "__init__") fd [q.sn, q.pn] (spI1 K (atN tl q.f)) ∧ Binds K fd [q.sn, q.pn] [] := by
  intro q hq
  simp only [tl, List.mem_cons, List.not_mem_nil, or_false] at hq
  subst hq
  obtain ⟨fd, F⟩ := c.t.d.def_ 33 (d := d33) rfl
  exact ⟨fd, init1 F sc33 (by decide +kernel) (by decide +kernel) (by decide +kernel) (by decide +kernel), F.bindsN fun _ _ _ _ _ _ us hl => (match us, hl with | [_, _], _ => rfl)⟩
theorem facts (X : K.In h) (G : h.Ns mainGlobals mg) (c : He.SaysX [] fn [] [] ex w h K) {f : Addr} (hfa : mg ("law" : Str) = some (.ref f)) :
    ∃ fd : FuncData, (∀ (s : Shared) (v : Value), BindsTo s fd ⟨[v], []⟩ [("_law_script", v)]) ∧ ∀ base : Heap, FnOk P w K mg base (L2.CX P w) (60 + 1 + 3) f fd ["_law_script"] (spD (fxOf tl K an_nd) 1 (callD tl.ct (60 + 1) 32)) := by
  obtain ⟨fd, F⟩ := c.t.d.def_ 32 (d := d32) rfl
  have hg := (and2 c.more).1
  have gk := gk_of (nd := an_nd) X G hg
  have hfn := (and2 c.more).2
  have e := hfa.symm.trans (PySem.W.mg_of X G (of_decide_eq_true (List.all_eq_true.mp hfn "law" (by decide +kernel))))
  cases e
  have b := FunD.bindsA (ps := ["_law_script"]) F fun _ _ _ _ _ _ us hl => match us, hl with | [_], _ => rfl
  exact ⟨fd, fun s v => b s [v] rfl, fun base => def_fn (F := fxOf tl K an_nd) (d := ⟨1, 10, false, b_law⟩) gk (rz_of hg (xi base c)) (all_ok (F := fxOf tl K an_nd) gk (fun _ _ => rz_of hg (xi base c)) (df X G c) 60) F sc32 rfl rfl ok_law⟩
end
end LK82
end
section
set_option Elab.async false
set_option linter.all false
set_option maxRecDepth 100000
set_option maxHeartbeats 1000000
set_option autoImplicit false
namespace LK82
open PySem PySem.Spec PyProof.Rows L2 Ev
/-- a sign -/
def bit (c : Nat) : Bool := c == 48 || c == 49
def mark (c : Nat) : Bool := bit c || c == 46
/-- all are signs; all are marks -/
def rowB (cs : List Nat) : Bool := cs.all bit
def mrkB (cs : List Nat) : Bool := cs.all mark
def bits (cs : List Nat) : Prop := ∀ c ∈ cs, bit c = true
def marks (cs : List Nat) : Prop := ∀ c ∈ cs, mark c = true
theorem bit_lt {c : Nat} (h : bit c = true) : c < 1114112 := by
  unfold bit at h
  rcases Bool.or_eq_true_iff.mp h with h | h <;> (have := beq_iff_eq.mp h; omega)
theorem mark_lt {c : Nat} (h : mark c = true) : c < 1114112 := by
  unfold mark at h
  rcases Bool.or_eq_true_iff.mp h with h | h
  · exact bit_lt h
  · have := beq_iff_eq.mp h; omega
theorem bits_asc {cs : List Nat} (h : bits cs) : asc cs := fun c hc => bit_lt (h c hc)
theorem marks_asc {cs : List Nat} (h : marks cs) : asc cs := fun c hc => mark_lt (h c hc)
theorem bits_marks {cs : List Nat} (h : bits cs) : marks cs := fun c hc => by unfold mark; rw [h c hc]; rfl
theorem in_signs {c : Nat} (S : List O) (h : c < 1114112) : inDS false (.str [c]) (.ft [.str [48], .str [49]]) S = .ok (.bl (bit c)) S := by
  have h1 : shD (.str [c]) = true := sh_str (by intro d hd; simp at hd; omega)
  have h2 : shD (.tup [.str [48], .str [49]]) = true := sh_tup (by decide)
  have e : ∀ d : Nat, (d == c) = (c == d) := fun d => beq_comm' d c
  simp -dsimp [inDS, seqOf, h1, h2, bit, e]
/-- is_row -/
theorem e_is_row {k : Nat} (cs : List Nat) (S : List O) (hz : cs.length ≤ 10000) (ha : asc cs) : callD tl.ct (k + 1) F_is_row [.str cs] S = .ok (.bl (rowB cs)) S := by
  rw [run_is_row]
  simp -dsimp [b_is_row, ofS, srcOf]
  rw [lc_map (fun c => D.str [c]) (fun c => .bl (bit c)) (fun c hc T => by simp -dsimp [in_signs T (ha c hc)]) hz (by simp)]
  simp -dsimp [all_bls (f := fun c => D.bl (bit c)) (g := bit) fun _ => rfl]
  rfl
/-- what is no text -/
def noStr : D → Bool
  | .non | .bl _ | .int _ | .tup _ | .ft _ | .lst _ | .fl _ | .dk _ _ | .dt _ _ => true
  | _ => false
theorem e_is_row_no {k : Nat} {x : D} (S : List O) (h : noStr x = true) : callD tl.ct (k + 1) F_is_row [x] S = .ok (.bl false) S := by
  rw [run_is_row]
  cases x <;> first | (cases h; done) | simp -dsimp [b_is_row]
/-- is_row_of_length -/
theorem e_is_row_of_length {k : Nat} (cs : List Nat) (n : Int) (S : List O) (hz : cs.length ≤ 10000) (ha : asc cs) : callD tl.ct (k + 2) F_is_row_of_length [.str cs, .int n] S = .ok (.bl (rowB cs && (cs.length : Int) == n)) S := by
  rw [run_is_row_of_length]
  simp -dsimp [b_is_row_of_length]
  rw [e_is_row cs S hz ha]
  cases h : rowB cs with
  | false => simp
  | true => simp -dsimp [len_str hz, eqS_int]
theorem e_is_row_of_length_no {k : Nat} {x : D} {m : D} (S : List O) (h : noStr x = true) : callD tl.ct (k + 2) F_is_row_of_length [x, m] S = .ok (.bl false) S := by
  rw [run_is_row_of_length]
  simp -dsimp [b_is_row_of_length]
  rw [e_is_row_no S h]
  simp
/-- is_marked -/
theorem e_is_marked {k : Nat} (cs : List Nat) (n : Int) (S : List O) (hz : cs.length ≤ 10000) (ha : asc cs) : callD tl.ct (k + 1) F_is_marked [.str cs, .int n] S = .ok (.bl ((cs.length : Int) == n && mrkB cs)) S := by
  rw [run_is_marked]
  simp -dsimp [b_is_marked, ofS, srcOf, len_str hz, eqS_int]
  by_cases h : (cs.length : Int) = n
  · simp -dsimp [h]
    rw [lc_map (fun c => D.str [c]) (fun c => .bl (mark c)) (fun c hc T => by
      simp -dsimp [in_signs T (ha c hc), mark]
      cases hb : bit c with
      | true => simp
      | false => simp -dsimp [eqS_str (show asc [c] from by intro d hd; simp at hd; rw [hd]; exact ha c hc) (show asc [46] from by intro d hd; simp at hd; omega)]) hz (by simp)]
    simp -dsimp [all_bls (f := fun c => D.bl (mark c)) (g := mark) fun _ => rfl]
    rfl
  · simp -dsimp [h]
theorem e_is_marked_no {k : Nat} {x : D} {m : D} (S : List O) (h : noStr x = true) : callD tl.ct (k + 1) F_is_marked [x, m] S = .ok (.bl false) S := by
  rw [run_is_marked]
  cases x <;> first | (cases h; done) | simp -dsimp [b_is_marked]
/-- with_sign -/
theorem e_with_sign {k : Nat} (cs z : List Nat) (p : Nat) (S : List O) (hz : cs.length ≤ 5000) (hp : p < cs.length) (hl : z.length ≤ 10) : callD tl.ct (k + 1) F_with_sign [.str cs, .int p, .str z] S = .ok (.str (cs.take p ++ z ++ cs.drop (p + 1))) S := by
  rw [run_with_sign]
  simp -dsimp [b_with_sign, slc_str (a := cs) (by omega), cut_take (xs := cs) (p := p) (by omega), cut_drop1 (xs := cs) (p := p) (by omega), add_str (a := cs.take p) (b := z) (by simp; omega), add_str (a := cs.take p ++ z) (b := cs.drop (p + 1)) (by simp; omega)]
end LK82
end
section
set_option Elab.async false
set_option linter.all false
set_option maxRecDepth 100000
set_option maxHeartbeats 1000000
set_option autoImplicit false
namespace LK82
open PySem PySem.Spec PyProof.Rows L2 Ev
theorem rng_16 {S : List O} : rngS (.int 1) (.int 7) S = .ok ⟨[.int 1, .int 2, .int 3, .int 4, .int 5, .int 6], []⟩ S := by
  show (if inR 1 ∧ inR 7 then R.ok (Src.mk (rngL 1 ((7 : Int) - 1).toNat) []) S else .bad) = _
  rw [if_pos (by decide)]; rfl
/-- the places of a fact of so many signs -/
def pl (n : Nat) : D := if n = 2 then .int 1 else if n = 4 then .int 2 else if n = 8 then .int 3 else if n = 16 then .int 4 else if n = 32 then .int 5 else if n = 64 then .int 6 else .non
/-- places_of_fact -/
theorem e_places_of_fact {k : Nat} (cs : List Nat) (S : List O) (hz : cs.length ≤ 10000) (ha : asc cs) : callD tl.ct (k + 2) F_places_of_fact [.str cs] S = .ok (if rowB cs = true then pl cs.length else .non) S := by
  rw [run_places_of_fact]
  simp -dsimp [b_places_of_fact, e_is_row cs S hz ha]
  cases hb : rowB cs with
  | false => simp -dsimp
  | true =>
    have e2 : ((cs.length : Int) == 2) = decide (cs.length = 2) := by by_cases h : cs.length = 2 <;> simp [h]; omega
    have e4 : ((cs.length : Int) == 4) = decide (cs.length = 4) := by by_cases h : cs.length = 4 <;> simp [h]; omega
    have e8 : ((cs.length : Int) == 8) = decide (cs.length = 8) := by by_cases h : cs.length = 8 <;> simp [h]; omega
    have e16 : ((cs.length : Int) == 16) = decide (cs.length = 16) := by by_cases h : cs.length = 16 <;> simp [h]; omega
    have e32 : ((cs.length : Int) == 32) = decide (cs.length = 32) := by by_cases h : cs.length = 32 <;> simp [h]; omega
    have e64 : ((cs.length : Int) == 64) = decide (cs.length = 64) := by by_cases h : cs.length = 64 <;> simp [h]; omega
    by_cases h2 : cs.length = 2
    · simp -dsimp [rng_16, len_str hz, eqS_int, pl, h2]
    by_cases h4 : cs.length = 4
    · simp -dsimp [rng_16, len_str hz, eqS_int, pl, h4]
    by_cases h8 : cs.length = 8
    · simp -dsimp [rng_16, len_str hz, eqS_int, pl, h8]
    by_cases h16 : cs.length = 16
    · simp -dsimp [rng_16, len_str hz, eqS_int, pl, h16]
    by_cases h32 : cs.length = 32
    · simp -dsimp [rng_16, len_str hz, eqS_int, pl, h32]
    by_cases h64 : cs.length = 64
    · simp -dsimp [rng_16, len_str hz, eqS_int, pl, h64]
    simp -dsimp [rng_16, len_str hz, eqS_int, pl, e2, e4, e8, e16, e32, e64, h2, h4, h8, h16, h32, h64]
theorem e_places_of_fact_no {k : Nat} {x : D} (S : List O) (h : noStr x = true) : callD tl.ct (k + 2) F_places_of_fact [x] S = .ok .non S := by
  rw [run_places_of_fact]
  simp -dsimp [b_places_of_fact]
  rw [e_is_row_no S h]
  simp -dsimp
/-- a fact of m places -/
def fact (cs : List Nat) (m : Nat) : Prop := bits cs ∧ cs.length = 2 ^ m ∧ 1 ≤ m ∧ m ≤ 6
theorem bits_all {cs : List Nat} (h : bits cs) : rowB cs = true := List.all_eq_true.mpr h
theorem fact.len {cs : List Nat} {m : Nat} (h : fact cs m) : cs.length ≤ 64 := by
  obtain ⟨_, h, a, b⟩ := h
  rw [h]
  exact Nat.pow_le_pow_right (by decide) b
theorem pl_of {m : Nat} (h1 : 1 ≤ m) (h2 : m ≤ 6) : pl (2 ^ m) = .int m := by
  match m, h1, h2 with
  | 1, _, _ => rfl
  | 2, _, _ => rfl
  | 3, _, _ => rfl
  | 4, _, _ => rfl
  | 5, _, _ => rfl
  | 6, _, _ => rfl
/-- check_fact -/
theorem e_check_fact {k m : Nat} {cs : List Nat} (h : fact cs m) (S : List O) : callD tl.ct (k + 3) F_check_fact [.str cs] S = .ok (.int m) S := by
  rw [run_check_fact]
  have e := e_places_of_fact (k := k) cs S (by have := h.len; omega) (bits_asc h.1)
  rw [bits_all h.1, h.2.1, pl_of h.2.2.1 h.2.2.2] at e
  simp -dsimp [b_check_fact, e, isD]
/-- no fact -/
theorem e_check_fact_no {k : Nat} {x : D} {S : List O} (h : ∀ k, callD tl.ct (k + 2) F_places_of_fact [x] S = .ok .non S) : callD tl.ct (k + 3) F_check_fact [x] S = .ex ⟨C_BadFact, [], []⟩ S := by
  rw [run_check_fact]
  simp -dsimp [b_check_fact, h, isD]
end LK82
end
section
set_option Elab.async false
set_option linter.all false
set_option maxRecDepth 100000
set_option maxHeartbeats 1000000
set_option autoImplicit false
namespace LK82
open PySem PySem.Spec PyProof.Rows L2 Ev
theorem bit_or {c : Nat} (h : bit c = true) : c = 48 ∨ c = 49 := by
  unfold bit at h
  rcases Bool.or_eq_true_iff.mp h with h | h
  · exact .inl (beq_iff_eq.mp h)
  · exact .inr (beq_iff_eq.mp h)
theorem bitsV_lt : ∀ {cs : List Nat} (a : Nat), bits cs → cs.foldl (fun a c => a * 2 + (c - 48)) a < (a + 1) * 2 ^ cs.length
  | [], a, _ => by simp
  | c :: cs, a, h => by
    have hc := bit_or (h c List.mem_cons_self)
    have ih := bitsV_lt (cs := cs) (a * 2 + (c - 48)) fun d hd => h d (List.mem_cons_of_mem _ hd)
    rw [List.foldl_cons, List.length_cons, Nat.pow_succ]
    refine Nat.lt_of_lt_of_le ih ?_
    have : a * 2 + (c - 48) + 1 ≤ (a + 1) * 2 := by rcases hc with rfl | rfl <;> omega
    calc _ ≤ ((a + 1) * 2) * 2 ^ cs.length := Nat.mul_le_mul_right _ this
      _ = _ := by rw [Nat.mul_assoc, Nat.mul_comm 2]
theorem bitsV_lt' {cs : List Nat} (h : bits cs) : bitsV cs < 2 ^ cs.length := by
  have := bitsV_lt 0 h
  simpa [bitsV] using this
theorem int2 {cs : List Nat} {S : List O} (h : bits cs) (h1 : cs ≠ []) (h2 : cs.length ≤ 640) : intD [.str cs, .int 2] S = .ok (.int (bitsV cs : Nat)) S := by
  have : binB cs = true := List.all_eq_true.mpr fun c hc => decide_eq_true (by rcases bit_or (h c hc) with rfl | rfl <;> omega)
  show (if cs ≠ [] ∧ cs.length ≤ 640 ∧ binB cs = true then R.ok (D.int (bitsV cs : Nat)) S else .bad) = _
  rw [if_pos ⟨h1, h2, this⟩]
/-- the sign that the fact has for a row -/
def sgn (f r : List Nat) : Nat := gt f (bitsV r)
/-- a row of m signs -/
def row (r : List Nat) (m : Nat) : Prop := bits r ∧ r.length = m
theorem row.val {f r : List Nat} {m : Nat} (h : row r m) (hf : fact f m) : bitsV r < f.length := by
  rw [hf.2.1, ← h.2]; exact bitsV_lt' h.1
/-- sign_for -/
theorem e_sign_for {k m : Nat} {f r : List Nat} (hf : fact f m) (h : row r m) (S : List O) : callD tl.ct (k + 1) F_sign_for [.str f, .str r] S = .ok (.str [sgn f r]) S := by
  rw [run_sign_for]
  have hne : r ≠ [] := fun z => by have := h.2; rw [z] at this; have := hf.2.2.1; simp at *; omega
  have hl := hf.len
  simp -dsimp [b_sign_for, int2 h.1 hne (by have := h.2; have := hf.2.2.2; omega), idx_str (cs := f) (by omega) (h.val hf), sgn]
/-- the signs that a mark lets -/
def opts (c : Nat) : List Nat := if c = 46 then [48, 49] else [c]
def fitA (found : List (List Nat)) (c : Nat) : List (List Nat) := found.flatMap fun r => (opts c).map fun z => r ++ [z]
/-- the rows that fit marks -/
def fits (cs : List Nat) : List (List Nat) := cs.foldl fitA [[]]
theorem opts_len (c : Nat) : (opts c).length ≤ 2 := by unfold opts; split <;> simp
theorem fitA_len (found : List (List Nat)) (c : Nat) : (fitA found c).length ≤ found.length * 2 := by
  unfold fitA
  rw [List.length_flatMap]
  induction found with
  | nil => simp
  | cons r found ih => simp only [List.map_cons, List.sum_cons, List.length_cons, List.length_map]; have := opts_len c; simp only [List.length_map] at ih; omega
theorem fitA_mem {found : List (List Nat)} {c : Nat} {n : Nat} (h : ∀ r ∈ found, row r n) (hc : mark c = true) : ∀ r ∈ fitA found c, row r (n + 1) := by
  intro r hr
  obtain ⟨q, hq, h2⟩ := List.mem_flatMap.mp hr
  obtain ⟨z, hz, rfl⟩ := List.mem_map.mp h2
  have hb : bit z = true := by
    unfold opts at hz
    split at hz
    · simp at hz; rcases hz with rfl | rfl <;> rfl
    · rename_i hne
      simp at hz; subst hz
      unfold mark at hc
      rcases Bool.or_eq_true_iff.mp hc with hc | hc
      · exact hc
      · exact absurd (beq_iff_eq.mp hc) hne
  refine ⟨fun d hd => ?_, by simp [(h q hq).2]⟩
  rcases List.mem_append.mp hd with hd | hd
  · exact (h q hq).1 d hd
  · simp at hd; subst hd; exact hb
theorem fold_fit : ∀ {cs : List Nat} {found : List (List Nat)} {n : Nat}, marks cs → (∀ r ∈ found, row r n) → (∀ r ∈ cs.foldl fitA found, row r (n + cs.length)) ∧ (cs.foldl fitA found).length ≤ found.length * 2 ^ cs.length
  | [], found, n, _, h => ⟨by simpa using h, by simp⟩
  | c :: cs, found, n, hm, h => by
    obtain ⟨a, b⟩ := fold_fit (cs := cs) (found := fitA found c) (n := n + 1) (fun d hd => hm d (List.mem_cons_of_mem _ hd)) (fitA_mem h (hm c List.mem_cons_self))
    refine ⟨fun r hr => ?_, ?_⟩
    · have := a r hr
      rw [List.length_cons, show n + (cs.length + 1) = n + 1 + cs.length by omega]; exact this
    · rw [List.foldl_cons, List.length_cons, Nat.pow_succ]
      calc _ ≤ (fitA found c).length * 2 ^ cs.length := b
        _ ≤ (found.length * 2) * 2 ^ cs.length := Nat.mul_le_mul_right _ (fitA_len found c)
        _ = _ := by rw [Nat.mul_assoc, Nat.mul_comm 2]
theorem fits_row {cs : List Nat} (h : marks cs) : ∀ r ∈ fits cs, row r cs.length := fun r hr => by
  have := (fold_fit (found := [[]]) (n := 0) h (by intro q hq; simp at hq; subst hq; exact ⟨fun d hd => (nomatch hd), rfl⟩)).1 r hr
  simpa using this
theorem fits_len {cs : List Nat} (h : marks cs) : (fits cs).length ≤ 2 ^ cs.length := by
  have := (fold_fit (cs := cs) (found := [[]]) (n := 0) h (by intro q hq; simp at hq; subst hq; exact ⟨fun d hd => (nomatch hd), rfl⟩)).2
  simpa [fits] using this
/-- one mark's step -/
theorem e_rows_fittingin {k m : Nat} {S : List O} {c : Nat} {found : List (List Nat)} {x y z : Option D} {w : D} (hc : mark c = true) (hl : found.length ≤ 1000) (hr : ∀ r ∈ found, row r m) (hm : m ≤ 10) :
    evSs tl.ct (callD tl.ct k) (.cons (.asg (.nm 3) (.ite (.cmp .Eq (.var 2) (.glb 1)) (.glb 0) (.tup (.cons (.var 2) .nil)))) (.cons (.asgL2 true 1 (.bin .Add (.var 4) (.var 5)) (.nm 4) (.of (.var 1)) (.nm 5) (.of (.var 3)) [4, 5] [5]) .nil)) none
      [some w, some (.lst (found.map D.str)), some (.str [c]), x, y, z] S = .nx [some w, some (.lst ((fitA found c).map D.str)), some (.str [c]), some (if c = 46 then .ft [.str [48], .str [49]] else .tup [.str [c]]), y, z] S := by
  have ha : asc [c] := by intro d hd; simp at hd; subst hd; exact mark_lt hc
  have hb : asc [46] := by intro d hd; simp at hd; omega
  have hs : ((1 : Nat) ≤ sizeLine) = True := by rw [szl]; simp
  have h1 : (found.flatMap fun r => (opts c).map fun z => D.str (r ++ [z])).length ≤ 100000 := by
    have := fitA_len found c
    have e : (found.flatMap fun r => (opts c).map fun z => D.str (r ++ [z])) = (fitA found c).map D.str := by simp [fitA, List.map_flatMap, Function.comp_def]
    rw [e, List.length_map]; omega
  have h2 : ∀ r ∈ found, ∀ d ∈ (opts c).map (fun z => D.str (r ++ [z])), nrD d = true := fun r _ d hd => by
    obtain ⟨q, _, rfl⟩ := List.mem_map.mp hd
    rfl
  have h3 : (found.flatMap fun r => (opts c).map fun z => D.str (r ++ [z])) = (fitA found c).map D.str := by simp [fitA, List.map_flatMap, Function.comp_def]
  have h4 : ∀ r ∈ found, ∀ q : Nat, ∀ T, addD (.str r) (.str [q]) T = .ok (.str (r ++ [q])) T := fun r hr' q T => add_str (by simp; have := (hr r hr').2; omega)
  by_cases h : c = 46
  · subst h
    simp -dsimp [eqS_str ha hb]
    rw [lc2_val D.str (fun r => (opts 46).map fun z => D.str (r ++ [z])) ?_ h1 h2, h3]
    · simp -dsimp
    · intro r hr' acc hz
      simp -dsimp
      refine lc_go (xs := opts 46) (fun z => D.str [z]) (fun z => some (.str (r ++ [z]))) ?_ (by rw [szl]; simp at hz ⊢; omega) |>.trans (by simp)
      intro q hq acc
      simp -dsimp [h4 r hr']
  · simp -dsimp [eqS_str ha hb, h, hs]
    rw [lc2_val D.str (fun r => (opts c).map fun z => D.str (r ++ [z])) ?_ h1 h2, h3]
    · simp -dsimp
    · intro r hr' acc hz
      simp -dsimp
      have e : [D.str [c]] = (opts c).map fun z => D.str [z] := by simp [opts, h]
      rw [e]
      refine lc_go (xs := opts c) (fun z => D.str [z]) (fun z => some (.str (r ++ [z]))) ?_ (by rw [szl]; simp at hz ⊢; omega) |>.trans (by simp)
      intro q hq acc
      simp -dsimp [h4 r hr']
end LK82
end
section
set_option Elab.async false
set_option linter.all false
set_option maxRecDepth 100000
set_option maxHeartbeats 1000000
set_option autoImplicit false
namespace LK82
open PySem PySem.Spec PyProof.Rows L2 Ev
theorem marks_cut {ys zs : List Nat} {x : Nat} {cs : List Nat} (h : marks cs) (e : cs = ys ++ x :: zs) : marks ys ∧ mark x = true := by
  subst e
  exact ⟨fun d hd => h d (by simp [hd]), h x (by simp)⟩
/-- rows_fitting -/
theorem e_rows_fitting {k : Nat} {cs : List Nat} (h : marks cs) (hl : cs.length ≤ 6) (S : List O) : callD tl.ct (k + 1) F_rows_fitting [.str cs] S = .ok (.lst ((fits cs).map D.str)) S := by
  have hs : ((1 : Nat) ≤ sizeLine) = True := by rw [szl]; simp
  rw [run_rows_fitting]
  simp -dsimp [b_rows_fitting, hs]
  refine fr_foldK (P := fun f => gcR S (fin f) = _) (fun c => D.str [c]) (fun found ρ => ∃ x y, ρ = [some (.str cs), some (.lst (found.map D.str)), x, y, none, none]) fitA (z := [[]]) ⟨_, _, rfl⟩ ?_ ?_
  · rintro ys x zs he ρ ⟨a, b, rfl⟩
    obtain ⟨m1, m2⟩ := marks_cut h he
    obtain ⟨q1, q2⟩ := fold_fit (found := [[]]) (n := 0) m1 (by intro q hq; simp at hq; subst hq; exact ⟨fun d hd => (nomatch hd), rfl⟩)
    have hle : ys.length ≤ 6 := by rw [he] at hl; simp at hl; omega
    have : 2 ^ ys.length ≤ 2 ^ 6 := Nat.pow_le_pow_right (by decide) hle
    exact ⟨_, _, rfl, e_rows_fittingin m2 (by simp at q2; omega) q1 (by omega), _, _, rfl⟩
  · rintro ρ2 ⟨x, y, rfl⟩
    simp -dsimp
    rw [gcR_lm fun _ => rfl]
    rfl
/-- with_sign -/
def put (cs : List Nat) (p z : Nat) : List Nat := cs.take p ++ [z] ++ cs.drop (p + 1)
theorem put_len {cs : List Nat} {p z : Nat} (h : p < cs.length) : (put cs p z).length = cs.length := by simp [put]; omega
theorem put_marks {cs : List Nat} {p z : Nat} (h : marks cs) (hz : mark z = true) : marks (put cs p z) := fun d hd => by
  unfold put at hd
  rcases List.mem_append.mp hd with hd | hd
  · rcases List.mem_append.mp hd with hd | hd
    · exact h d (List.mem_of_mem_take hd)
    · simp at hd; subst hd; exact hz
  · exact h d (List.mem_of_mem_drop hd)
theorem put_bits {cs : List Nat} {p z : Nat} (h : bits cs) (hz : bit z = true) : bits (put cs p z) := fun d hd => by
  unfold put at hd
  rcases List.mem_append.mp hd with hd | hd
  · rcases List.mem_append.mp hd with hd | hd
    · exact h d (List.mem_of_mem_take hd)
    · simp at hd; subst hd; exact hz
  · exact h d (List.mem_of_mem_drop hd)
theorem row.put {r : List Nat} {m p z : Nat} (h : row r m) (hp : p < m) (hz : bit z = true) : row (put r p z) m := ⟨put_bits h.1 hz, by rw [put_len (by rw [h.2]; exact hp), h.2]⟩
theorem e_with_sign' {k : Nat} (cs : List Nat) (z p : Nat) (S : List O) (hz : cs.length ≤ 5000) (hp : p < cs.length) : callD tl.ct (k + 1) F_with_sign [.str cs, .int p, .str [z]] S = .ok (.str (put cs p z)) S := e_with_sign cs [z] p S hz hp (by simp)
theorem sgn_bit {f r : List Nat} {m : Nat} (hf : fact f m) (h : row r m) : bit (sgn f r) = true := by
  have := h.val hf
  unfold sgn
  exact hf.1 _ (gt_mem this)
/-- does the answer hang on the place -/
def hangB (f cs : List Nat) (p : Nat) : Bool := (fits (put cs p 48)).any fun r => sgn f r != sgn f (put r p 49)
/-- hangs_on -/
theorem e_hangs_on {k m p : Nat} {f cs : List Nat} (hf : fact f m) (h : marks cs) (hl : cs.length = m) (hp : p < m) (S : List O) : callD tl.ct (k + 2) F_hangs_on [.str f, .str cs, .int p] S = .ok (.bl (hangB f cs p)) S := by
  have hm := hf.2.2.2
  rw [run_hangs_on]
  simp -dsimp [b_hangs_on, e_with_sign' cs 48 p _ (by omega) (by omega), e_rows_fitting (cs := put cs p 48) (put_marks h rfl) (by rw [put_len (by omega)]; omega)]
  refine fr_findK (P := fun f => gcR S (fin f) = _) D.str (fun ρ => ∃ x, ρ = [some (.str f), some (.str cs), some (.int p), x]) (fun r => sgn f r != sgn f (put r p 49)) (fun _ => .bl true) ⟨_, rfl⟩ ?_ ?_ ?_
  · rintro r hr ρ ⟨x, rfl⟩
    have hr1 : row r m := by
      have := fits_row (put_marks (z := 48) (p := p) h rfl) r hr
      rw [put_len (by omega), hl] at this; exact this
    have a1 : asc [sgn f r] := by intro d hd; simp at hd; subst hd; exact bit_lt (sgn_bit hf hr1)
    have hr2 : row (put r p 49) m := hr1.put hp rfl
    have a2 : asc [sgn f (put r p 49)] := by intro d hd; simp at hd; subst hd; exact bit_lt (sgn_bit hf hr2)
    refine ⟨_, rfl, fun hq => ?_, fun hq => ⟨[some (.str f), some (.str cs), some (.int p), some (.str r)], ?_, _, rfl⟩⟩
    · have hq : sgn f r ≠ sgn f (put r p 49) := by simpa using hq
      simp -dsimp [e_sign_for hf hr1, e_with_sign' r 49 p _ (by have := hr1.2; omega) (by have := hr1.2; omega), e_sign_for hf hr2, eqS_str a1 a2, hq]
    · have hq : sgn f r = sgn f (put r p 49) := by simpa using hq
      simp -dsimp [e_sign_for hf hr1, e_with_sign' r 49 p _ (by have := hr1.2; omega) (by have := hr1.2; omega), e_sign_for hf hr2, eqS_str a2 a2, hq]
  · intro x e1
    have : hangB f cs p = true := find_any e1
    simp -dsimp [this]
  · rintro e1 ρ2 ⟨x, rfl⟩
    have : hangB f cs p = false := find_no e1
    simp -dsimp [this]
/-- the places on which the answer hangs -/
def hang (f cs : List Nat) : List Nat := ((cs.zipIdx 0).filter fun q => q.1 == 46 && hangB f cs q.2).map (·.2)
theorem hang_mem {f cs : List Nat} {p : Nat} (h : p ∈ hang f cs) : p < cs.length ∧ cs[p]? = some 46 := by
  obtain ⟨q, hq, rfl⟩ := List.mem_map.mp h
  obtain ⟨h1, h2⟩ := List.mem_filter.mp hq
  have := List.mem_zipIdx h1
  obtain ⟨-, h4, h5⟩ := this
  have e : q.1 = 46 := by
    have := (Bool.and_eq_true_iff.mp h2).1
    exact beq_iff_eq.mp this
  refine ⟨by simpa using h4, ?_⟩
  rw [List.getElem?_eq_getElem (by simpa using h4), ← e, h5]
  simp
/-- hanging_at -/
theorem e_hanging_at {k m : Nat} {f cs : List Nat} (hf : fact f m) (h : marks cs) (hl : cs.length = m) (S : List O) : callD tl.ct (k + 3) F_hanging_at [.str f, .str cs] S = .ok (.tup ((hang f cs).map fun p => .int (p : Nat))) S := by
  have hm := hf.2.2.2
  have hb : asc [46] := by intro d hd; simp at hd; omega
  rw [run_hanging_at]
  simp -dsimp [b_hanging_at, enmS, enm_zip]
  rw [lc_flt (fun q : Nat × Nat => D.tup [.int (q.2 : Nat), .str [q.1]]) (fun q => q.1 == 46 && hangB f cs q.2) (fun q => .int (q.2 : Nat)) ?_ (by simp; omega) (fun _ _ => rfl)]
  · simp -dsimp
    rw [gcR_tm fun _ => rfl]
    simp [hang, Function.comp_def]
  · rintro ⟨c, p⟩ hq T
    obtain ⟨-, h4, h5⟩ := List.mem_zipIdx hq
    have ha : asc [c] := by
      intro d hd; simp at hd; subst hd
      simp at h5; exact mark_lt (h _ (by rw [h5]; exact List.getElem_mem _))
    simp -dsimp [eqS_str ha hb, e_hangs_on hf h hl (show p < m by simp at h4; omega)]
    by_cases hc : c = 46
    · cases hh : hangB f cs p <;> simp -dsimp [hc, hh]
    · simp -dsimp [hc]
end LK82
end
section
set_option Elab.async false
set_option linter.all false
set_option maxRecDepth 100000
set_option maxHeartbeats 1000000
set_option autoImplicit false
namespace LK82
open PySem PySem.Spec PyProof.Rows L2 Ev
def dots (cs : List Nat) : Nat := cs.count 46
theorem put_dots {cs : List Nat} {p z : Nat} (h : cs[p]? = some 46) (hz : bit z = true) : dots (put cs p z) + 1 = dots cs := by
  have hp : p < cs.length := by
    rcases Nat.lt_or_ge p cs.length with h2 | h2
    · exact h2
    · rw [List.getElem?_eq_none h2] at h; cases h
  have e : cs = cs.take p ++ 46 :: cs.drop (p + 1) := by
    rw [List.getElem?_eq_getElem hp] at h
    have h := Option.some.inj h
    rw [← h, List.getElem_cons_drop hp, List.take_append_drop]
  have hz : z ≠ 46 := by rcases bit_or hz with rfl | rfl <;> decide
  unfold dots put
  conv => rhs; rw [e]
  rw [List.count_append, List.count_append, List.count_append, List.count_cons_self, List.count_cons_of_ne hz, List.count_nil]
  omega
theorem hang_0 {f cs : List Nat} (h : dots cs = 0) : hang f cs = [] := by
  cases e : hang f cs with
  | nil => rfl
  | cons p ps =>
    have := (hang_mem (f := f) (cs := cs) (p := p) (by rw [e]; simp)).2
    have h2 : 46 ∈ cs := List.mem_of_getElem? this
    exact absurd h2 (List.count_eq_zero.mp h)
section
variable (f r : List Nat)
/-- fewest and most looks from marks on, d deep at most -/
def lv : Nat → List Nat → Int × Int
  | 0, _ => (0, 0)
  | d + 1, cs => match (hang f cs).map fun p => lv d (put cs p (gt r p)) with
    | [] => (0, 0)
    | q :: qs => (1 + minL q.1 (qs.map (·.1)), 1 + maxL q.2 (qs.map (·.2)))
def lvS (cs : List Nat) : Int × Int := lv f r (dots cs) cs
def LD (cs : List Nat) : D := .tup [.int (lvS f r cs).1, .int (lvS f r cs).2]
end
theorem row_getD {r : List Nat} {m p : Nat} (h : row r m) (hp : p < m) : bit (gt r p) = true := by
  have : p < r.length := by rw [h.2]; exact hp
  exact h.1 _ (gt_mem this)
theorem lv_dots {f r : List Nat} {m : Nat} (hr : row r m) : ∀ (d : Nat) {cs : List Nat}, cs.length = m → dots cs ≤ d → lv f r d cs = lvS f r cs
  | 0, cs, _, h => by unfold lvS; rw [Nat.le_zero.mp h]
  | d + 1, cs, hl, h => by
    rcases Nat.lt_or_ge (dots cs) (d + 1) with h2 | h2
    · cases hd : dots cs with
      | zero =>
        unfold lvS
        rw [hd]
        show (match (hang f cs).map fun p => lv f r d (put cs p (gt r p)) with
          | [] => ((0 : Int), (0 : Int))
          | q :: qs => (1 + minL q.1 (qs.map (·.1)), 1 + maxL q.2 (qs.map (·.2)))) = (0, 0)
        rw [hang_0 hd]; rfl
      | succ n =>
        unfold lvS
        rw [hd]
        unfold lv
        have : ((hang f cs).map fun p => lv f r d (put cs p (gt r p))) = (hang f cs).map fun p => lv f r n (put cs p (gt r p)) := by
          refine List.map_congr_left fun p hp => ?_
          obtain ⟨h3, h4⟩ := hang_mem hp
          have h5 := put_dots h4 (row_getD hr (show p < m by omega))
          have h6 : (put cs p (gt r p)).length = m := by rw [put_len h3, hl]
          rw [lv_dots hr d h6 (by omega), lv_dots hr n h6 (by omega)]
        rw [this]
    · unfold lvS
      rw [show dots cs = d + 1 by omega]
theorem lvS_eq {f r : List Nat} {m : Nat} (hr : row r m) {cs : List Nat} (hl : cs.length = m) : lvS f r cs = (match (hang f cs).map fun p => lvS f r (put cs p (gt r p)) with
    | [] => (0, 0)
    | q :: qs => (1 + minL q.1 (qs.map (·.1)), 1 + maxL q.2 (qs.map (·.2)))) := by
  rw [← lv_dots hr (dots cs + 1) hl (by omega)]
  unfold lv
  have : ((hang f cs).map fun p => lv f r (dots cs) (put cs p (gt r p))) = (hang f cs).map fun p => lvS f r (put cs p (gt r p)) := by
    refine List.map_congr_left fun p hp => ?_
    obtain ⟨h3, h4⟩ := hang_mem hp
    have h5 := put_dots h4 (row_getD hr (show p < m by omega))
    exact lv_dots hr _ (by rw [put_len h3, hl]) (by omega)
  rw [this]
/-- the store of what is known -/
structure MemL (val : List Nat → D) (ks : List Key) (vs : List D) : Prop where
  len : ks.length = vs.length
  nr : nrL vs = true
  val : ∀ cs w, lookK ks vs (.inr (mkS cs)) = some w → w = val cs
theorem MemL.put2 {val : List Nat → D} {ks : List Key} {vs : List D} (h : MemL val ks vs) {cs : List Nat} {w0 w : D} (h0 : nrD w0 = true) (hw : nrD w = true) (e : w = val cs) : MemL val (putKs (putKs ks (.inr (mkS cs))) (.inr (mkS cs))) (putVs (putKs ks (.inr (mkS cs))) (putVs ks vs (.inr (mkS cs)) w0) (.inr (mkS cs)) w) := by
  have l1 := put_len_eq (k := (.inr (mkS cs) : Key)) (d := w0) h.len
  refine ⟨put_len_eq l1, nr_put (nr_put h.nr h0) hw, fun c2 w2 h2 => ?_⟩
  rw [look_put l1] at h2
  split at h2
  · rename_i e2
    cases h2
    rw [e, mkS_inj (Sum.inr.inj e2)]
  · rename_i e2
    rw [look_put h.len, if_neg e2] at h2
    exact h.val c2 w2 h2
theorem MemL.put {val : List Nat → D} {ks : List Key} {vs : List D} (h : MemL val ks vs) {cs : List Nat} {w : D} (hw : nrD w = true) (e : w = val cs) : MemL val (putKs ks (.inr (mkS cs))) (putVs ks vs (.inr (mkS cs)) w) := by
  refine ⟨put_len_eq h.len, nr_put h.nr hw, fun c2 w2 h2 => ?_⟩
  rw [look_put h.len] at h2
  split at h2
  · rename_i e2
    cases h2
    rw [e, mkS_inj (Sum.inr.inj e2)]
  · exact h.val c2 w2 h2
def Tn : Nat → Nat
  | 0 => 1
  | d + 1 => 1 + 6 * Tn d
theorem Tn_pos (d : Nat) : 1 ≤ Tn d := by cases d <;> simp [Tn]
theorem Tn_6 : Tn 6 = 55987 := by decide
theorem hang_len {f cs : List Nat} : (hang f cs).length ≤ cs.length := by
  unfold hang
  rw [List.length_map]
  have := List.length_filter_le (fun q : Nat × Nat => q.1 == 46 && hangB f cs q.2) (cs.zipIdx 0)
  simpa using this
/-- looks_from -/
theorem e_looks_from {m : Nat} {f r : List Nat} (hf : fact f m) (hr : row r m) : ∀ (d : Nat) {k n : Nat} {cs : List Nat} {S : List O} {ks : List Key} {vs : List D}, dots cs ≤ d → marks cs → cs.length = m → d + 4 ≤ k → S[n]? = some (.dK ks vs) → MemL (LD f r) ks vs → ks.length + Tn d ≤ 100000 →
    ∃ ks' vs', callD tl.ct (k + 1) F_looks_from [.ref n, .str f, .str r, .str cs] S = .ok (LD f r cs) (S.set n (.dK ks' vs')) ∧ MemL (LD f r) ks' vs' ∧ ks'.length ≤ ks.length + Tn d := by
  intro d
  induction d using Nat.strongRecOn with
  | ind d ih =>
  intro k n cs S ks vs hd hc hl hk hS hM hz
  have hm := hf.2.2.2
  have hn := get_lt hS
  rw [run_looks_from]
  simp -dsimp [b_looks_from, in_dK hS]
  cases hlk : lookK ks vs (.inr (mkS cs)) with
  | some w =>
    have hw := hM.val cs w hlk
    subst hw
    refine ⟨ks, vs, ?_, hM, by omega⟩
    simp -dsimp [idx_dK hS hlk]
    rw [gcR_nr rfl, set_id hS]
  | none =>
    have hs0 : ((0 : Nat) ≤ sizeLine) = True := by rw [szl]; simp
    have hs2 : ((2 : Nat) ≤ sizeLine) = True := by rw [szl]; simp
    obtain ⟨k, rfl⟩ : ∃ j, k = j + 3 := ⟨k - 3, by omega⟩
    simp -dsimp [hs0, e_hanging_at hf hc hl]
    rw [fb_asc]
    refine fr_foldSK (P := fun g => ∃ ks' vs', gcR S (fin g) = R.ok (LD f r cs) (S.set n (O.dK ks' vs')) ∧ MemL (LD f r) ks' vs' ∧ ks'.length ≤ ks.length + Tn d) (fun p : Nat => D.int (p : Int))
      (fun (z : List Nat) ρ S' => ∃ ks' vs' x, ρ = [some (.ref n), some (.str f), some (.str r), some (.str cs), some (.ref S.length), x, none] ∧ S' = S.set n (.dK ks' vs') ++ [.lst (z.map fun p => LD f r (put cs p (gt r p)))] ∧ MemL (LD f r) ks' vs' ∧ ks'.length ≤ ks.length + z.length * Tn (d - 1))
      (fun z p => z ++ [p]) (z := []) ?_ ?_ ?_
    · exact ⟨ks, vs, none, rfl, by rw [set_id hS]; rfl, hM, by simp⟩
    · rintro ys p zs he ρ S1 ⟨ks1, vs1, x, rfl, rfl, hM1, hz1⟩
      rw [foldl_snoc, List.nil_append] at hz1 ⊢
      obtain ⟨h3, h4⟩ := hang_mem (f := f) (cs := cs) (p := p) (by rw [he]; simp)
      have hb := row_getD hr (show p < m by omega)
      have h5 := put_dots h4 hb
      have hlen : ys.length + 1 ≤ 6 := by
        have := hang_len (f := f) (cs := cs)
        rw [he] at this; simp at this; omega
      obtain ⟨e, rfl⟩ : ∃ e, d = e + 1 := ⟨d - 1, by omega⟩
      have hT : ks.length + (1 + 6 * Tn e) ≤ 100000 := hz
      have hmul : ys.length * Tn e ≤ 5 * Tn e := Nat.mul_le_mul_right _ (by omega)
      obtain ⟨ks2, vs2, e2, hM2, hz2⟩ := ih e (by omega) (k := k + 2) (n := n) (cs := put cs p (gt r p)) (S := S.set n (.dK ks1 vs1) ++ [.lst (ys.map fun p => LD f r (put cs p (gt r p)))]) (by omega) (put_marks hc (by unfold mark; rw [hb]; rfl)) (by rw [put_len h3, hl]) (by omega) (st_get hn _ _) hM1 (by simp at hz1 ⊢; omega)
      refine ⟨_, [some (.ref n), some (.str f), some (.str r), some (.str cs), some (.ref S.length), some (.int p), none], S.set n (.dK ks2 vs2) ++ [.lst ((ys ++ [p]).map fun p => LD f r (put cs p (gt r p)))], rfl, ?_, ks2, vs2, _, rfl, rfl, hM2, ?_⟩
      · rw [st_set hn] at e2
        simp -dsimp [at_app (st_top _ _), idx_str (cs := r) (n := p) (by have := hr.2; omega) (by have := hr.2; omega), e_with_sign' cs (gt r p) p _ (by omega) h3, e2, app_lst (st_top _ _), st_put, show ys.length ≤ 100000 by omega]
      · simp at hz1 ⊢
        rw [Nat.add_mul]
        omega
    · rintro ρ2 S2 ⟨ks1, vs1, x, rfl, rfl, hM1, hz1⟩
      rw [foldl_snoc, List.nil_append] at hz1 ⊢
      have hz3 : ks1.length + 1 ≤ ks.length + Tn d := by
        have := hang_len (f := f) (cs := cs)
        cases d with
        | zero => rw [hang_0 (Nat.le_zero.mp hd)] at hz1; simp [Tn] at hz1 ⊢; omega
        | succ e =>
          have hmul : (hang f cs).length * Tn e ≤ 6 * Tn e := Nat.mul_le_mul_right _ (by omega)
          simp [Tn] at hz1 ⊢; omega
      have hpl : (putKs ks1 (.inr (mkS cs) : Key)).length ≤ ks1.length + 1 := put_len_le
      simp -dsimp [hs2, set_dK (st_get hn _ _) (cs := cs) (show ks1.length ≤ 100000 by omega), st_set hn, ne_lst (st_top _ _)]
      cases hh : hang f cs with
      | nil =>
        have hv : D.tup [.int 0, .int 0] = LD f r cs := by
          unfold LD
          rw [lvS_eq hr hl, hh]; rfl
        refine ⟨_, _, ?_, hM1.put (cs := cs) rfl hv, by omega⟩
        simp -dsimp [idx_dK (st_get hn _ _) (cs := cs) (w := D.tup [.int 0, .int 0]) (by rw [look_put hM1.len, if_pos rfl])]
        rw [gcR_one rfl (show clO _ (.dK _ _) = true from nr_clL _ (nr_put hM1.nr rfl)) hn, hv]
      | cons q qs =>
        have hv : D.tup [.int (1 + minL (lvS f r (put cs q (gt r q))).1 (qs.map fun p => (lvS f r (put cs p (gt r p))).1)), .int (1 + maxL (lvS f r (put cs q (gt r q))).2 (qs.map fun p => (lvS f r (put cs p (gt r p))).2))] = LD f r cs := by
          unfold LD
          rw [lvS_eq hr hl, hh]
          simp [Function.comp_def]
        have hz4 : qs.length ≤ 100 := by
          have := hang_len (f := f) (cs := cs)
          rw [hh] at this; simp at this; omega
        refine ⟨_, _, ?_, hM1.put2 (cs := cs) (w0 := D.tup [.int 0, .int 0]) rfl rfl hv, by rw [put_put]; omega⟩
        simp -dsimp [-List.map_cons, srcOf_ref (st_top _ _)]
        rw [lc_mapG (fun p => LD f r (put cs p (gt r p))) (fun p => .int (lvS f r (put cs p (gt r p))).1) (st_top _ _) (fun p hp T => by simp -dsimp [LD]) (by simp; omega) (fun _ _ => rfl)]
        simp -dsimp [-List.map_cons, srcOf_ref (st_top _ _), min_lst (ints_map (fun p => rfl) (q :: qs))]
        rw [lc_mapG (fun p => LD f r (put cs p (gt r p))) (fun p => .int (lvS f r (put cs p (gt r p))).2) (st_top _ _) (fun p hp T => by simp -dsimp [LD]) (by simp; omega) (fun _ _ => rfl)]
        simp -dsimp [-List.map_cons, max_lst (ints_map (fun p => rfl) (q :: qs)), hs2, set_dK (st_get hn _ _) (cs := cs) (show (putKs ks1 (.inr (mkS cs) : Key)).length ≤ 100000 by omega), st_set hn]
        have l1 := put_len_eq (k := (.inr (mkS cs) : Key)) (d := D.tup [.int 0, .int 0]) hM1.len
        rw [hv]
        simp -dsimp [idx_dK (st_get hn _ _) (cs := cs) (w := LD f r cs) (by rw [look_put l1, if_pos rfl])]
        rw [gcR_one rfl (show clO _ (.dK _ _) = true from nr_clL _ (nr_put (nr_put hM1.nr rfl) rfl)) hn]
end LK82
end
section
set_option Elab.async false
set_option linter.all false
set_option maxRecDepth 100000
set_option maxHeartbeats 1000000
set_option autoImplicit false
namespace LK82
open PySem PySem.Spec PyProof.Rows L2 Ev
/-- hanging -/
theorem e_hanging {k m : Nat} {f cs : List Nat} (hf : fact f m) (hz : cs.length ≤ 10000) (ha : asc cs) (S : List O) : callD tl.ct (k + 4) F_hanging [.str f, .str cs] S = if cs.length = m ∧ mrkB cs = true then .ok (.tup ((hang f cs).map fun p => .int (p : Nat))) S else .ex ⟨C_BadStanding, [], []⟩ S := by
  rw [run_hanging]
  simp -dsimp [b_hanging, e_check_fact hf, e_is_marked cs m _ hz ha]
  by_cases hl : cs.length = m
  · cases hb : mrkB cs with
    | false => simp -dsimp [hl, hb]
    | true =>
      have hc : marks cs := List.all_eq_true.mp hb
      simp -dsimp [hl, e_hanging_at hf hc hl]
      rw [gcR_tm fun _ => rfl]
  · have : ¬(cs.length : Int) = (m : Int) := fun z => hl (by omega)
    simp -dsimp [hl, this]
theorem e_hanging_no {k m : Nat} {f : List Nat} {x : D} (hf : fact f m) (h : noStr x = true) (S : List O) : callD tl.ct (k + 4) F_hanging [.str f, x] S = .ex ⟨C_BadStanding, [], []⟩ S := by
  rw [run_hanging]
  simp -dsimp [b_hanging, e_check_fact hf, e_is_marked_no _ h]
theorem e_hanging_bad {k : Nat} {x y : D} {S : List O} (h : ∀ k, callD tl.ct (k + 2) F_places_of_fact [x] S = .ok .non S) : callD tl.ct (k + 4) F_hanging [x, y] S = .ex ⟨C_BadFact, [], []⟩ S := by
  rw [run_hanging]
  simp -dsimp [b_hanging, e_check_fact_no h]
@[simp] theorem mul_dot {m : Nat} {S : List O} (h : m ≤ 10) : mulD (.str [46]) (.int (m : Nat)) S = .ok (.str (List.replicate m 46)) S := by
  show (if (0 : Int) ≤ (m : Nat) ∧ ((m : Nat) : Int) ≤ 1000 ∧ [46].length ≤ 1000 then R.ok (D.str (repL ((m : Nat) : Int).toNat [46])) S else .bad) = _
  rw [if_pos ⟨by omega, by omega, by decide⟩]
  simp [repL]
theorem dots_marks {m : Nat} : marks (List.replicate m 46) := fun c hc => by rw [List.eq_of_mem_replicate hc]; rfl
theorem dots_dots {m : Nat} : dots (List.replicate m 46) = m := by simp [dots]
/-- looks_for -/
theorem e_looks_for {k m : Nat} {f r : List Nat} (hf : fact f m) (hr : row r m) (S : List O) : callD tl.ct (k + 15) F_looks_for [.str f, .str r] S = .ok (LD f r (List.replicate m 46)) S := by
  have hm := hf.2.2.2
  rw [run_looks_for]
  have hl := hr.2
  obtain ⟨ks, vs, e, hM, _⟩ := e_looks_from hf hr 6 (k := k + 13) (n := S.length) (cs := List.replicate m 46) (S := S ++ [.dK [] []]) (ks := []) (vs := []) (by rw [dots_dots]; omega) dots_marks (by simp) (by omega) (by simp) ⟨rfl, rfl, fun _ _ h => nomatch h⟩ (by rw [Tn_6]; decide)
  simp -dsimp [b_looks_for, len_str (cs := r) (by omega), hl, mul_dot (show m ≤ 10 by omega), e]
  rw [gcR_val rfl]
/-- looks -/
theorem e_looks {k m : Nat} {f cs : List Nat} (hf : fact f m) (hz : cs.length ≤ 10000) (ha : asc cs) (S : List O) : callD tl.ct (k + 16) F_looks [.str f, .str cs] S = if cs.length = m ∧ rowB cs = true then .ok (LD f cs (List.replicate m 46)) S else .ex ⟨C_BadRow, [], []⟩ S := by
  rw [run_looks]
  simp -dsimp [b_looks, e_check_fact hf, e_is_row_of_length cs m _ hz ha]
  by_cases hl : cs.length = m
  · cases hb : rowB cs with
    | false => simp -dsimp [hl, hb]
    | true =>
      have hc : row cs m := ⟨List.all_eq_true.mp hb, hl⟩
      simp -dsimp [hl, e_looks_for hf hc]
      rw [gcR_nr rfl]
  · have : ¬(cs.length : Int) = (m : Int) := fun z => hl (by omega)
    simp -dsimp [hl, this]
theorem e_looks_no {k m : Nat} {f : List Nat} {x : D} (hf : fact f m) (h : noStr x = true) (S : List O) : callD tl.ct (k + 16) F_looks [.str f, x] S = .ex ⟨C_BadRow, [], []⟩ S := by
  rw [run_looks]
  simp -dsimp [b_looks, e_check_fact hf, e_is_row_of_length_no _ h]
theorem e_looks_bad {k : Nat} {x y : D} {S : List O} (h : ∀ k, callD tl.ct (k + 2) F_places_of_fact [x] S = .ok .non S) : callD tl.ct (k + 16) F_looks [x, y] S = .ex ⟨C_BadFact, [], []⟩ S := by
  rw [run_looks]
  simp -dsimp [b_looks, e_check_fact_no h]
end LK82
end
section
set_option Elab.async false
set_option linter.all false
set_option maxRecDepth 100000
set_option maxHeartbeats 1000000
set_option autoImplicit false
namespace LK82
open PySem PySem.Spec PyProof.Rows L2 Ev
/-- the sign of a number's oddness -/
def oddS (n : Nat) : Nat := 48 + n % 2
theorem oddS_asc (n : Nat) : asc [oddS n] := by intro d hd; simp [oddS] at hd; omega
theorem mod2 {n : Nat} {S : List O} : modD (.int (n : Nat)) (.int 2) S = .ok (.int ((n % 2 : Nat) : Int)) S := by
  show (if (2 : Int) ≠ 0 then R.ok (D.int ((n : Int).fmod 2)) S else .bad) = _
  rw [if_pos (by decide), Int.fmod_eq_emod_of_nonneg _ (by decide)]
  rfl
/-- odd_sign -/
theorem e_odd_sign {k n : Nat} (S : List O) : callD tl.ct (k + 1) F_odd_sign [.int (n : Nat)] S = .ok (.str [oddS n]) S := by
  rw [run_odd_sign]
  simp -dsimp only [b_odd_sign, vs_cons, v_ret, w_idx, w_glb, g_SIGNS, R.bind_ok, hid_ap, w_bin, w_var, w_int, binD, mod2, prim_ok', fl_ok, List.map, List.getElem?_cons_zero, List.replicate, List.length, Nat.sub_self, List.append_nil]
  have : n % 2 = 0 ∨ n % 2 = 1 := by omega
  rcases this with h | h
  · rw [h]
    show gcR S (.ok (.str [48]) S) = _
    simp [oddS, h]
  · rw [h]
    show gcR S (.ok (.str [49]) S) = _
    simp [oddS, h]
theorem int_bit {c : Nat} {S : List O} (h : bit c = true) : intD [.str [c]] S = .ok (.int ((c - 48 : Nat) : Int)) S := by
  rcases bit_or h with rfl | rfl
  · have : PySem.intText? (mkS [48]) = some 0 := by decide +kernel
    show (match PySem.intText? (mkS [48]) with
      | some n => if [48].length ≤ 640 then R.ok (D.int n) S else .bad
      | none => .bad) = _
    rw [this]; rfl
  · have : PySem.intText? (mkS [49]) = some 1 := by decide +kernel
    show (match PySem.intText? (mkS [49]) with
      | some n => if [49].length ≤ 640 then R.ok (D.int n) S else .bad
      | none => .bad) = _
    rw [this]; rfl
theorem idx_f0 {f : List Nat} {S : List O} (hz : f.length ≤ 10000) (h : 0 < f.length) : idxD (.str f) (.int 0) S = .ok (.str [gt f 0]) S := idx_str (n := 0) hz h
/-- the sum of a row's signs at places, and the first sign -/
def tot (f : List Nat) (ps r : List Nat) : Nat := (ps.filter fun p => gt r p == 49).length + (gt f 0 - 48)
def sumB (f : List Nat) (m : Nat) : Bool := (fits (List.replicate m 46)).any fun r => sgn f r != oddS (tot f (hang f (List.replicate m 46)) r)
/-- sum_fact -/
theorem e_sum_fact {k m : Nat} {f : List Nat} (hf : fact f m) (S : List O) : callD tl.ct (k + 6) F_sum_fact [.str f] S = .ok (if sumB f m = true then .non else .tup [.tup ((hang f (List.replicate m 46)).map fun p => .int (p : Nat)), .str [gt f 0]]) S := by
  have hm := hf.2.2.2
  have hfl := hf.len
  have hf0 : 0 < f.length := by rw [hf.2.1]; exact Nat.two_pow_pos m
  have hs2 : ((2 : Nat) ≤ sizeLine) = True := by rw [szl]; simp
  rw [run_sum_fact]
  simp -dsimp [b_sum_fact, e_check_fact hf, mul_dot (show m ≤ 10 by omega), e_hanging_at hf (dots_marks (m := m)) (by simp), idx_f0 (f := f) (by omega) hf0, e_rows_fitting (dots_marks (m := m)) (by simp; omega)]
  refine fr_findK (P := fun g => gcR S (fin g) = _) D.str (fun ρ => ∃ x y z, ρ = [some (.str f), some (.int m), some (.tup ((hang f (List.replicate m 46)).map fun p => .int (p : Nat))), some (.str [gt f 0]), x, y, z]) (fun r => sgn f r != oddS (tot f (hang f (List.replicate m 46)) r)) (fun _ => .non) ⟨_, _, _, rfl⟩ ?_ ?_ ?_
  · rintro r hr ρ ⟨x, y, z, rfl⟩
    have hr1 : row r m := by
      have := fits_row (dots_marks (m := m)) r hr
      simpa using this
    have a1 : asc [sgn f r] := by intro d hd; simp at hd; subst hd; exact bit_lt (sgn_bit hf hr1)
    have e1 : ∀ (g : D → List O → R (Option D)), (∀ p ∈ hang f (List.replicate m 46), ∀ T, g (.int (p : Nat)) T = .ok (if (gt r p == 49) = true then some (.int 1) else none) T) → gcR S (lcE [] g ((hang f (List.replicate m 46)).map fun p => .int (p : Nat)) S) = .ok (.lst (((hang f (List.replicate m 46)).filter fun p => gt r p == 49).map fun _ => .int 1)) S := fun g hg => by
      refine lc_flt _ _ _ hg ?_ (fun _ _ => rfl)
      have := hang_len (f := f) (cs := List.replicate m 46)
      simp at this; omega
    have e2 : ∀ p ∈ hang f (List.replicate m 46), p < m := fun p hp => by have := (hang_mem hp).1; simpa using this
    have a4 : ∀ p ∈ hang f (List.replicate m 46), asc [gt r p] := fun p hp => by intro d hd; simp at hd; subst hd; exact bit_lt (hr1.1 _ (gt_mem (by have := hr1.2; have := e2 p hp; omega)))
    have a5 : asc [49] := by intro d hd; simp at hd; omega
    have e3 : ∀ a : Nat, (a : Int) + ((gt f 0 - 48 : Nat) : Int) = ((a + (gt f 0 - 48) : Nat) : Int) := fun a => by omega
    have et : ((((hang f (List.replicate m 46)).filter fun p => gt r p == 49).length : Nat) : Int) + ((gt f 0 - 48 : Nat) : Int) = ((tot f (hang f (List.replicate m 46)) r : Nat) : Int) := e3 _
    refine ⟨_, rfl, fun hq => ?_, fun hq => ⟨[some (.str f), some (.int m), some (.tup ((hang f (List.replicate m 46)).map fun p => .int (p : Nat))), some (.str [gt f 0]), some (.str r), some (.int (tot f (hang f (List.replicate m 46)) r : Nat)), z], ?_, _, _, _, rfl⟩⟩
    · have hq : sgn f r ≠ oddS (tot f (hang f (List.replicate m 46)) r) := by simpa using hq
      simp -dsimp
      rw [e1 _ (fun p hp T => by
        simp -dsimp [idx_str (cs := r) (n := p) (by have := hr1.2; omega) (by have := hr1.2; have := e2 p hp; omega), eqS_str (a4 p hp) a5]; split <;> rfl)]
      simp -dsimp [int_bit (hf.1 _ (gt_mem hf0))]
      rw [et]
      simp -dsimp [e_sign_for hf hr1, e_odd_sign, eqS_str a1 (oddS_asc _), eqS_str (oddS_asc _) (oddS_asc _), hq]
    · have hq : sgn f r = oddS (tot f (hang f (List.replicate m 46)) r) := by simpa using hq
      simp -dsimp
      rw [e1 _ (fun p hp T => by
        simp -dsimp [idx_str (cs := r) (n := p) (by have := hr1.2; omega) (by have := hr1.2; have := e2 p hp; omega), eqS_str (a4 p hp) a5]; split <;> rfl)]
      simp -dsimp [int_bit (hf.1 _ (gt_mem hf0))]
      rw [et]
      simp -dsimp [e_sign_for hf hr1, e_odd_sign, eqS_str a1 (oddS_asc _), eqS_str (oddS_asc _) (oddS_asc _), hq]
  · intro x e1
    have : sumB f m = true := find_any e1
    simp -dsimp [this]
  · rintro e1 ρ2 ⟨x, y, z, rfl⟩
    have : sumB f m = false := find_no e1
    simp -dsimp [this, hs2]
    rw [gcR_nr (by rw [nr_tup, nrL_cons, nr_tup, nrL_map fun _ => rfl]; rfl)]
end LK82
end
section
set_option Elab.async false
set_option linter.all false
set_option maxRecDepth 100000
set_option maxHeartbeats 1000000
set_option autoImplicit false
namespace LK82
open PySem PySem.Spec PyProof.Rows L2 Ev
theorem opts_ne (c : Nat) : opts c ≠ [] := by unfold opts; split <;> simp
theorem fitA_ne {found : List (List Nat)} {c : Nat} (h : found ≠ []) : fitA found c ≠ [] := by
  cases found with
  | nil => exact absurd rfl h
  | cons r found =>
    unfold fitA
    rw [List.flatMap_cons]
    intro z
    have := (List.append_eq_nil_iff.mp z).1
    exact opts_ne c (List.map_eq_nil_iff.mp this)
theorem fits_ne (cs : List Nat) : fits cs ≠ [] := by
  unfold fits
  have : ∀ found : List (List Nat), found ≠ [] → cs.foldl fitA found ≠ [] := by
    induction cs with
    | nil => intro f h; exact h
    | cons c cs ih => intro f h; rw [List.foldl_cons]; exact ih _ (fitA_ne h)
  exact this _ (by simp)
theorem idx_lm {α : Type} {f : α → D} {xs : List α} {n : Nat} {S : List O} (h : n < xs.length) : idxD (.lst (xs.map f)) (.int (n : Nat)) S = .ok (f xs[n]) S := by
  show (match atI (xs.map f) (n : Int) with
    | some d => R.ok d S
    | none => .bad) = _
  rw [at_nat (by simpa using h), List.getElem_map]
theorem idx_lm0 {α : Type} {f : α → D} {x : α} {xs : List α} {S : List O} : idxD (.lst ((x :: xs).map f)) (.int 0) S = .ok (f x) S := idx_lm (n := 0) (xs := x :: xs) (by simp)
/-- have its looks unlike numbers, or not those of another row -/
def unB (f : List Nat) (m : Nat) (q r : List Nat) : Bool := (lvS f r (List.replicate m 46)).1 != (lvS f r (List.replicate m 46)).2 || !(eqD (LD f r (List.replicate m 46)) (LD f q (List.replicate m 46)))
theorem LD_scl (f r cs : List Nat) : ∀ d ∈ [D.int (lvS f r cs).1, D.int (lvS f r cs).2], sclD d = true := by
  intro d hd
  simp at hd
  rcases hd with rfl | rfl <;> rfl
/-- unlike_looks -/
theorem e_unlike_looks {k m : Nat} {f : List Nat} (hf : fact f m) (S : List O) : ∃ q rs, fits (List.replicate m 46) = q :: rs ∧ callD tl.ct (k + 16) F_unlike_looks [.str f] S = .ok (match (q :: rs).find? (unB f m q) with
    | some r => .tup [.str q, .str r]
    | none => .non) S := by
  have hm := hf.2.2.2
  obtain ⟨q, rs, e⟩ := List.exists_cons_of_ne_nil (fits_ne (List.replicate m 46))
  refine ⟨q, rs, e, ?_⟩
  have hrow : ∀ r ∈ q :: rs, row r m := fun r hr => by
    have := fits_row (dots_marks (m := m)) r (by rw [e]; exact hr)
    simpa using this
  have hs2 : ((2 : Nat) ≤ sizeLine) = True := by rw [szl]; simp
  rw [run_unlike_looks]
  simp -dsimp [-List.map_cons, b_unlike_looks, e_check_fact hf, mul_dot (show m ≤ 10 by omega), e_rows_fitting (dots_marks (m := m)) (by simp; omega), e, idx_lm0, e_looks_for hf (hrow q List.mem_cons_self)]
  refine fr_findK (P := fun g => gcR S (fin g) = _) D.str (fun ρ => ∃ x y, ρ = [some (.str f), some (.lst ((q :: rs).map D.str)), some (LD f q (List.replicate m 46)), x, y]) (unB f m q) (fun r => .tup [.str q, .str r]) ⟨_, _, rfl⟩ ?_ ?_ ?_
  · rintro r hr ρ ⟨x, y, rfl⟩
    have e1 : ∀ T, eqDS true (LD f r (List.replicate m 46)) (LD f q (List.replicate m 46)) T = .ok (.bl (!eqD (LD f r (List.replicate m 46)) (LD f q (List.replicate m 46)))) T := fun T => by
      have := eqS_tt (neg := true) (S := T) (LD_scl f r (List.replicate m 46)) (LD_scl f q (List.replicate m 46))
      rw [bne_true] at this
      exact this
    have e2 : ∀ T, idxD (LD f r (List.replicate m 46)) (.int 0) T = .ok (.int (lvS f r (List.replicate m 46)).1) T := fun T => rfl
    have e3 : ∀ T, idxD (LD f r (List.replicate m 46)) (.int 1) T = .ok (.int (lvS f r (List.replicate m 46)).2) T := fun T => rfl
    refine ⟨_, rfl, fun hq => ?_, fun hq => ⟨[some (.str f), some (.lst ((q :: rs).map D.str)), some (LD f q (List.replicate m 46)), some (.str r), some (LD f r (List.replicate m 46))], ?_, _, _, rfl⟩⟩
    · unfold unB at hq
      by_cases h1 : (lvS f r (List.replicate m 46)).1 = (lvS f r (List.replicate m 46)).2
      · have hq : eqD (LD f r (List.replicate m 46)) (LD f q (List.replicate m 46)) = false := by simpa [h1] using hq
        simp -dsimp [-List.map_cons, e_looks_for hf (hrow r hr), e2, e3, e1, eqS_int, h1, hq, idx_lm0, hs2]
      · simp -dsimp [-List.map_cons, e_looks_for hf (hrow r hr), e2, e3, e1, eqS_int, h1, idx_lm0, hs2]
    · unfold unB at hq
      have h1 : (lvS f r (List.replicate m 46)).1 = (lvS f r (List.replicate m 46)).2 := by simp at hq; exact hq.1
      have hq : eqD (LD f r (List.replicate m 46)) (LD f q (List.replicate m 46)) = true := by simpa [h1] using hq
      simp -dsimp [-List.map_cons, e_looks_for hf (hrow r hr), e2, e3, e1, eqS_int, h1, hq, idx_lm0, hs2]
  · intro x e1
    rw [e1, fin_rt, gcR_nr rfl]
  · rintro e1 ρ2 ⟨x, y, rfl⟩
    rw [e1]
    simp -dsimp
end LK82
end
section
set_option Elab.async false
set_option linter.all false
set_option maxRecDepth 100000
set_option maxHeartbeats 1000000
set_option autoImplicit false
namespace LK82
open PySem PySem.Spec PyProof.Rows L2 Ev
/-- the lots of so many places, as they are made -/
def lotsA (found : List (List Nat)) (p : Nat) : List (List Nat) := found ++ found.map (· ++ [p])
def lots0 (m : Nat) : List (List Nat) := (List.range m).foldl lotsA [[]]
/-- .. in order -/
def lotsO (m : Nat) : List (List Nat) := (lots0 m).mergeSort fun a b => leD (tupI a) (tupI b)
theorem lotsA_fold : ∀ (ps : List Nat) (found : List (List Nat)), (ps.foldl lotsA found).length = found.length * 2 ^ ps.length
  | [], found => by simp
  | p :: ps, found => by
    rw [List.foldl_cons, lotsA_fold ps, List.length_cons, Nat.pow_succ]
    simp [lotsA]
    rw [← Nat.mul_two, Nat.mul_assoc, Nat.mul_comm 2]
theorem lotsA_mem : ∀ {ps : List Nat} {found : List (List Nat)} {n : Nat}, (∀ w ∈ found, w.length ≤ n) → ∀ w ∈ ps.foldl lotsA found, w.length ≤ n + ps.length
  | [], found, n, h, w, hw => by simpa using h w hw
  | p :: ps, found, n, h, w, hw => by
    rw [List.foldl_cons] at hw
    have := lotsA_mem (ps := ps) (found := lotsA found p) (n := n + 1) (fun v hv => by
      rcases List.mem_append.mp hv with hv | hv
      · have := h v hv; omega
      · obtain ⟨u, hu, rfl⟩ := List.mem_map.mp hv
        have := h u hu; simp; omega) w hw
    simp; omega
theorem lots_hd : ∀ (ps : List Nat) (found : List (List Nat)), (∃ r, found = [] :: r) → ∃ r, ps.foldl lotsA found = [] :: r
  | [], _, h => h
  | p :: ps, _, ⟨r, h⟩ => lots_hd ps _ ⟨r ++ (([] : List Nat) :: r).map (· ++ [p]), by subst h; rfl⟩
theorem lots_srt (m : Nat) : srtB ((lots0 m).map tupI) = true := by
  refine srt_of (fun d hd => ?_) (fun d hd e he => ?_) (.inr (.inr ⟨?_, fun d hd => ?_⟩))
  · obtain ⟨p, _, rfl⟩ := List.mem_map.mp hd; exact sh_tupI p
  · obtain ⟨p, _, rfl⟩ := List.mem_map.mp hd
    obtain ⟨q, _, rfl⟩ := List.mem_map.mp he
    exact alike_tupI p q
  · obtain ⟨r, h⟩ := lots_hd (List.range m) [[]] ⟨[], rfl⟩
    refine ⟨r.map tupI, ?_⟩
    unfold lots0
    rw [h]; rfl
  · obtain ⟨p, _, rfl⟩ := List.mem_map.mp hd; rfl
/-- all_lots_of_places -/
theorem e_all_lots_of_places {k m : Nat} (h : m ≤ 6) (S : List O) : callD tl.ct (k + 1) F_all_lots_of_places [.int (m : Nat)] S = .ok (.lst ((lotsO m).map tupI)) S := by
  have hs0 : ((0 : Nat) ≤ sizeLine) = True := by rw [szl]; simp
  have hs1 : ((1 : Nat) ≤ sizeLine) = True := by rw [szl]; simp
  rw [run_all_lots_of_places]
  simp -dsimp [b_all_lots_of_places, hs0, hs1, rng_0 (n := m) (by omega)]
  refine fr_foldK (P := fun g => gcR S (fin g) = _) (fun p : Nat => D.int (p : Nat)) (fun found ρ => ∃ x, ρ = [some (.int (m : Nat)), some (.lst (found.map tupI)), x, none]) lotsA (z := [[]]) ⟨_, rfl⟩ ?_ ?_
  · rintro ys p zs he ρ ⟨x, rfl⟩
    have hl : ys.length ≤ 6 := by
      have : (List.range m).length = (ys ++ p :: zs).length := by rw [he]
      simp at this; omega
    have h1 := lotsA_fold ys [[]]
    have h2 := lotsA_mem (ps := ys) (found := [[]]) (n := 0) (by simp)
    have h3 : 2 ^ ys.length ≤ 2 ^ 6 := Nat.pow_le_pow_right (by decide) hl
    have hz : (ys.foldl lotsA [[]]).length ≤ 64 := by rw [h1]; simpa using h3
    refine ⟨_, [some (.int (m : Nat)), some (.lst ((lotsA (ys.foldl lotsA [[]]) p).map tupI)), some (.int (p : Nat)), none], rfl, ?_, _, rfl⟩
    simp -dsimp
    rw [lc_map (f := fun w => tupI (w ++ [p])) tupI ?_ (by omega) (fun _ _ => nr_tupI _)]
    · simp -dsimp [add_lst (show ((ys.foldl lotsA [[]]).map tupI).length + ((ys.foldl lotsA [[]]).map fun w => tupI (w ++ [p])).length ≤ 100000 by simp; omega)]
      simp [lotsA, Function.comp_def]
    · intro w hw T
      have := h2 w hw
      have : addD (tupI w) (.tup [.int (p : Nat)]) T = .ok (tupI (w ++ [p])) T := by
        unfold tupI
        rw [add_tup (by simp; omega), List.map_append]; rfl
      simp -dsimp [hs1, this]
  · rintro ρ2 ⟨x, rfl⟩
    have hz : (lots0 m).length ≤ 100000 := by
      unfold lots0
      rw [lotsA_fold]
      have : 2 ^ m ≤ 2 ^ 6 := Nat.pow_le_pow_right (by decide) h
      simp; omega
    have := srt_map (S := S) (lots_srt m) hz
    unfold lots0 at this
    unfold lotsO lots0
    simp -dsimp [this]
    rw [gcR_lm nr_tupI]
end LK82
end
section
set_option Elab.async false
set_option linter.all false
set_option maxRecDepth 100000
set_option maxHeartbeats 1000000
set_option autoImplicit false
namespace LK82
open PySem PySem.Spec PyProof.Rows L2 Ev
/-- the hand that draws -/
structure Hd where
  cs : List Int
  i : Nat
  z : Int
  s : Int
  c : Int
def hO (h : Hd) : O := .lst [.lst (h.cs.map D.int), .int (h.i : Nat), .int h.z, .int h.s, .int h.c]
/-- a cell is taken -/
def Hd.a (h : Hd) : Hd := if h.z = 0 ∧ h.i < h.cs.length then
    { h with i := h.i + 1, s := (h.s * 69621 + h.cs.getD h.i 0 + 11).fmod 2147483629, z := if (10 : Int) ^ 18 ≤ h.cs.getD h.i 0 then h.cs.getD h.i 0 else h.z }
  else h
def rnd1 (s c : Int) : Int := ((s + 7919 * c) * 48271).fmod 2147483647
def rnd2 (n : Int) : Int := (n * (n.fdiv 1009 + 69621)).fmod 2147483647
def rnd3 (n : Int) : Int := (n * (n.fdiv 2003 + 40692)).fmod 2147483399
def rnd (s c : Int) : Int := rnd3 (rnd2 (rnd1 s c))
def Hd.v (h : Hd) (m : Nat) : Nat := ((if 0 < h.a.z then h.a.z else (rnd h.a.s (h.a.c + 1)).fdiv 16).fmod m).toNat
def Hd.n (h : Hd) (m : Nat) : Hd := if 0 < h.a.z then { h.a with z := h.a.z.fdiv m } else { h.a with c := h.a.c + 1 }
theorem fmod_b (x : Int) {m : Int} (h : 0 < m) : 0 ≤ x.fmod m ∧ x.fmod m < m := by
  rw [Int.fmod_eq_emod_of_nonneg _ (Int.le_of_lt h)]
  exact ⟨Int.emod_nonneg _ (by omega), Int.emod_lt_of_pos _ h⟩
theorem Hd.v_lt (h : Hd) {m : Nat} (hm : 0 < m) : h.v m < m := by
  have := fmod_b (if 0 < h.a.z then h.a.z else (rnd h.a.s (h.a.c + 1)).fdiv 16) (m := (m : Int)) (by omega)
  unfold Hd.v
  omega
theorem Hd.v_int (h : Hd) {m : Nat} (hm : 0 < m) : ((h.v m : Nat) : Int) = (if 0 < h.a.z then h.a.z else (rnd h.a.s (h.a.c + 1)).fdiv 16).fmod m := by
  have := fmod_b (if 0 < h.a.z then h.a.z else (rnd h.a.s (h.a.c + 1)).fdiv 16) (m := (m : Int)) (by omega)
  unfold Hd.v
  omega
theorem mul_l {i j : Int} {S : List O} (h1 : -(2 ^ 64) < i) (h2 : i < 2 ^ 64) : mulD (.int i) (.int j) S = .ok (.int (i * j)) S := by
  show (if CMul i j ∨ CMulW i j then R.ok (D.int (i * j)) S else .bad) = _
  rw [if_pos (.inl (.inl ⟨h1, h2⟩))]
theorem mul_r {i j : Int} {S : List O} (h1 : -(2 ^ 64) < j) (h2 : j < 2 ^ 64) : mulD (.int i) (.int j) S = .ok (.int (i * j)) S := by
  show (if CMul i j ∨ CMulW i j then R.ok (D.int (i * j)) S else .bad) = _
  rw [if_pos (.inl (.inr ⟨h1, h2⟩))]
theorem fdiv_s {i j : Int} {S : List O} (h1 : j ≠ 0) (h2 : j.natAbs < 1073741824) : fdivD (.int i) (.int j) S = .ok (.int (i.fdiv j)) S := by
  show (if CDivN i j then R.ok (D.int (i.fdiv j)) S else if CDivW i j then .ok (.int (i / j)) S else .bad) = _
  rw [if_pos ⟨h1, h2⟩]
theorem mod_s {i j : Int} {S : List O} (h1 : j ≠ 0) : modD (.int i) (.int j) S = .ok (.int (i.fmod j)) S := by
  show (if j ≠ 0 then R.ok (D.int (i.fmod j)) S else .bad) = _
  rw [if_pos h1]
@[simp] theorem int_int {i : Int} {S : List O} : intD [.int i] S = .ok (.int i) S := rfl
section
variable {a b c d e w : D} {T : List O}
@[simp] theorem h_0 : idxD (.ref 0) (.int 0) (.lst [a, b, c, d, e] :: T) = .ok a (.lst [a, b, c, d, e] :: T) := rfl
@[simp] theorem h_1 : idxD (.ref 0) (.int 1) (.lst [a, b, c, d, e] :: T) = .ok b (.lst [a, b, c, d, e] :: T) := rfl
@[simp] theorem h_2 : idxD (.ref 0) (.int 2) (.lst [a, b, c, d, e] :: T) = .ok c (.lst [a, b, c, d, e] :: T) := rfl
@[simp] theorem h_3 : idxD (.ref 0) (.int 3) (.lst [a, b, c, d, e] :: T) = .ok d (.lst [a, b, c, d, e] :: T) := rfl
@[simp] theorem h_4 : idxD (.ref 0) (.int 4) (.lst [a, b, c, d, e] :: T) = .ok e (.lst [a, b, c, d, e] :: T) := rfl
@[simp] theorem hs_1 : setD (.ref 0) (.int 1) w (.lst [a, b, c, d, e] :: T) = .ok () (.lst [a, w, c, d, e] :: T) := rfl
@[simp] theorem hs_2 : setD (.ref 0) (.int 2) w (.lst [a, b, c, d, e] :: T) = .ok () (.lst [a, b, w, d, e] :: T) := rfl
@[simp] theorem hs_3 : setD (.ref 0) (.int 3) w (.lst [a, b, c, d, e] :: T) = .ok () (.lst [a, b, c, w, e] :: T) := rfl
@[simp] theorem hs_4 : setD (.ref 0) (.int 4) w (.lst [a, b, c, d, e] :: T) = .ok () (.lst [a, b, c, d, w] :: T) := rfl
end
theorem eqS_i {neg : Bool} {i j : Int} {S : List O} : eqDS neg (.int i) (.int j) S = .ok (.bl (neg != (i == j))) S := rfl
theorem idx_ints {cs : List Int} {n : Nat} {S : List O} (h : n < cs.length) : idxD (.lst (cs.map D.int)) (.int (n : Nat)) S = .ok (.int (cs.getD n 0)) S := by
  show (match atI (cs.map D.int) (n : Int) with
    | some d => R.ok d S
    | none => .bad) = _
  rw [at_nat (by simpa using h), List.getElem_map, List.getD_eq_getElem?_getD, List.getElem?_eq_getElem h]
  rfl
@[simp] theorem pow_18 {S : List O} : powD (.int 10) (.int 18) S = .ok (.int (10 ^ 18)) S := by
  show (if CPow 10 18 then R.ok (D.int (10 ^ (18 : Int).toNat)) S else .bad) = _
  rw [if_pos (by decide)]; rfl
/-- the things of a store stay as they are but the first -/
theorem gcR_hd {o p : O} {T : List O} {d : D} (hd : clD (T.length + 1) d = true) (hp : clO (T.length + 1) p = true) : gcR (o :: T) (.ok d (p :: T)) = .ok d (p :: T) := by
  have := gcR_one (S := o :: T) (T := []) (n := 0) (o := p) (d := d) hd hp (by simp)
  simpa using this
theorem hO_cl (h : Hd) (n : Nat) : clO n (hO h) = true := by
  refine nr_clL _ ?_
  show (nrL (h.cs.map D.int) && true) = true
  rw [nrL_map fun _ => rfl]; rfl
@[simp] theorem gcR_h {h g : Hd} {T : List O} {d : D} (hd : nrD d = true) : gcR (hO h :: T) (.ok d (hO g :: T)) = .ok d (hO g :: T) := gcR_hd (nr_cl _ hd) (hO_cl g _)
theorem draw_rest {C : Orc} {L : D} {x : Option D} {i z s c : Int} {m : Nat} {T : List O} (hm : 0 < m) (hz : m < 1073741824) : evSs tl.ct C b_l_draw.tl none [some (.ref 0), some (.int (m : Nat)), none, x, none] (.lst [L, .int i, .int z, .int s, .int c] :: T) =
    .rt (.int ((if 0 < z then z else (rnd s (c + 1)).fdiv 16).fmod m)) (.lst (if 0 < z then [L, .int i, .int (z.fdiv m), .int s, .int c] else [L, .int i, .int z, .int s, .int (c + 1)]) :: T) := by
  have hm0 : (m : Int) ≠ 0 := by omega
  have hmb : (m : Int).natAbs < 1073741824 := by omega
  have n1 := fmod_b ((s + 7919 * (c + 1)) * 48271) (m := 2147483647) (by decide)
  have n2 := fmod_b (rnd1 s (c + 1) * ((rnd1 s (c + 1)).fdiv 1009 + 69621)) (m := 2147483647) (by decide)
  have m1 : ∀ j S, mulD (.int (rnd1 s (c + 1))) (.int j) S = .ok (.int (rnd1 s (c + 1) * j)) S := fun j S => mul_l (by unfold rnd1; omega) (by unfold rnd1; omega)
  have m2 : ∀ j S, mulD (.int (rnd2 (rnd1 s (c + 1)))) (.int j) S = .ok (.int (rnd2 (rnd1 s (c + 1)) * j)) S := fun j S => mul_l (by unfold rnd2; omega) (by unfold rnd2; omega)
  have r1 : ((s + 7919 * (c + 1)) * 48271).fmod 2147483647 = rnd1 s (c + 1) := rfl
  have r2 : (rnd1 s (c + 1) * ((rnd1 s (c + 1)).fdiv 1009 + 69621)).fmod 2147483647 = rnd2 (rnd1 s (c + 1)) := rfl
  have r3 : (rnd2 (rnd1 s (c + 1)) * ((rnd2 (rnd1 s (c + 1))).fdiv 2003 + 40692)).fmod 2147483399 = rnd s (c + 1) := rfl
  by_cases h : 0 < z
  · simp -dsimp [Ss.tl, b_l_draw, h, mod_s hm0, fdiv_s hm0 hmb]
  · simp -dsimp [Ss.tl, b_l_draw, h, mod_s hm0, mod_s, fdiv_s, mul_l, mul_r, m1, m2, r1, r2, r3]
/-- a draw -/
@[simp] theorem e_draw {k : Nat} (h : Hd) {m : Nat} {T : List O} (hm : 0 < m) (hz : m < 1073741824) : callD tl.ct (k + 1) F_l_draw [.ref 0, .int (m : Nat)] (hO h :: T) = .ok (.int (h.v m : Nat)) (hO (h.n m) :: T) := by
  have e1 : ∃ x, evS tl.ct (callD tl.ct k) b_l_draw.hd none [some (.ref 0), some (.int (m : Nat)), none, none, none] (hO h :: T) = .nx [some (.ref 0), some (.int (m : Nat)), none, x, none] (hO h.a :: T) := by
    by_cases hz : h.z = 0
    · by_cases hi : h.i < h.cs.length
      · have ha : h.a = { h with i := h.i + 1, s := (h.s * 69621 + h.cs.getD h.i 0 + 11).fmod 2147483629, z := if (10 : Int) ^ 18 ≤ h.cs.getD h.i 0 then h.cs.getD h.i 0 else h.z } := by unfold Hd.a; rw [if_pos ⟨hz, hi⟩]
        refine ⟨some (.int (h.cs.getD h.i 0)), ?_⟩
        rw [ha]
        by_cases hb : (1000000000000000000 : Int) ≤ h.cs[h.i]
        · simp -dsimp [Ss.hd, b_l_draw, hO, eqS_i, hz, hi, idx_ints hi, mul_r, mod_s, hb]
        · simp -dsimp [Ss.hd, b_l_draw, hO, eqS_i, hz, hi, idx_ints hi, mul_r, mod_s, hb]
      · have ha : h.a = h := by unfold Hd.a; rw [if_neg fun z => hi z.2]
        refine ⟨none, ?_⟩
        rw [ha]
        simp -dsimp [Ss.hd, b_l_draw, hO, eqS_i, hz, hi]
    · have ha : h.a = h := by unfold Hd.a; rw [if_neg fun z => hz z.1]
      refine ⟨none, ?_⟩
      rw [ha]
      simp -dsimp [Ss.hd, b_l_draw, hO, eqS_i, hz]
  obtain ⟨x, e1⟩ := e1
  rw [run_l_draw, cut, e1, fb_nx, show hO h.a = .lst [.lst (h.a.cs.map D.int), .int (h.a.i : Nat), .int h.a.z, .int h.a.s, .int h.a.c] from rfl, draw_rest hm hz, fin_rt, ← h.v_int hm]
  have : O.lst (if 0 < h.a.z then [.lst (h.a.cs.map D.int), .int (h.a.i : Nat), .int (h.a.z.fdiv m), .int h.a.s, .int h.a.c] else [.lst (h.a.cs.map D.int), .int (h.a.i : Nat), .int h.a.z, .int h.a.s, .int (h.a.c + 1)]) = hO (h.n m) := by
    unfold Hd.n
    split <;> rfl
  rw [this, gcR_h rfl]
theorem e_hand {k : Nat} {ns : List Int} (hl : ns.length ≤ 63) : callD tl.ct (k + 1) F_l_hand [.fl (ns.map D.int)] [] = .ok (.ref 0) [hO ⟨ns.map fun i => if i < 0 then -i else i, 0, 0, 1 + (ns.length : Nat), 0⟩] := by
  rw [run_l_hand]
  have hsl : sliceD (.fl (ns.map D.int)) none (some 63) [] = .ok (.lst (ns.map D.int)) [] := by
    show R.ok (D.lst (cutL (ns.map D.int) none (some ((63 : Nat) : Int)))) [] = _
    unfold cutL
    rw [HT.sIx_none, HT.sIx_nat, List.drop_zero, Nat.sub_zero, List.take_of_length_le]
    rw [List.length_map]
    omega
  simp -dsimp [b_l_hand, hsl]
  generalize hr : gcR _ (lcE _ _ _ _) = r
  have hr := lc_resV hr D.int (fun i => .int (if i < 0 then -i else i)) rfl (fun i _ T => by simp -dsimp [absD]) (by omega) (fun _ _ => rfl)
  subst hr
  simp -dsimp [nat_sz, hO, Function.comp_def]
theorem e_drawI {k : Nat} (h : Hd) (m : Nat) {i : Int} (hi : i = (m : Nat)) {T : List O} (hm : 0 < m) (hz : m < 1073741824) : callD tl.ct (k + 1) F_l_draw [.ref 0, .int i] (hO h :: T) = .ok (.int (h.v m : Nat)) (hO (h.n m) :: T) := by
  subst hi
  exact e_draw h hm hz
end LK82
end
section
set_option Elab.async false
set_option linter.all false
set_option maxRecDepth 100000
set_option maxHeartbeats 1000000
set_option autoImplicit false
namespace LK82
open PySem PySem.Spec PyProof.Rows L2 Ev
section
variable (f : List Nat)
/-- the least depth of a look tree, d deep at most -/
def fw : Nat → List Nat → Int
  | 0, _ => 0
  | d + 1, cs => match (hang f cs).map fun p => 1 + maxL (fw d (put cs p 48)) [fw d (put cs p 49)] with
    | [] => 0
    | q :: qs => minL q qs
def fwS (cs : List Nat) : Int := fw f (dots cs) cs
def fwP (cs : List Nat) (p : Nat) : Int := 1 + maxL (fwS f (put cs p 48)) [fwS f (put cs p 49)]
end
theorem fw_dots {f : List Nat} : ∀ (d : Nat) {cs : List Nat}, dots cs ≤ d → fw f d cs = fwS f cs
  | 0, cs, h => by unfold fwS; rw [Nat.le_zero.mp h]
  | d + 1, cs, h => by
    rcases Nat.lt_or_ge (dots cs) (d + 1) with h2 | h2
    · cases hd : dots cs with
      | zero =>
        unfold fwS
        rw [hd]
        unfold fw
        rw [hang_0 hd]; rfl
      | succ n =>
        unfold fwS
        rw [hd]
        unfold fw
        have : ((hang f cs).map fun p => 1 + maxL (fw f d (put cs p 48)) [fw f d (put cs p 49)]) = (hang f cs).map fun p => 1 + maxL (fw f n (put cs p 48)) [fw f n (put cs p 49)] := by
          refine List.map_congr_left fun p hp => ?_
          obtain ⟨h3, h4⟩ := hang_mem hp
          have h5 := put_dots (z := 48) h4 rfl
          have h6 := put_dots (z := 49) h4 rfl
          rw [fw_dots d (by omega), fw_dots n (by omega), fw_dots d (cs := put cs p 49) (by omega), fw_dots n (cs := put cs p 49) (by omega)]
        rw [this]
    · unfold fwS
      rw [show dots cs = d + 1 by omega]
theorem fwS_eq {f cs : List Nat} : fwS f cs = (match (hang f cs).map (fwP f cs) with
    | [] => 0
    | q :: qs => minL q qs) := by
  rw [← fw_dots (dots cs + 1) (by omega)]
  unfold fw
  have : ((hang f cs).map fun p => 1 + maxL (fw f (dots cs) (put cs p 48)) [fw f (dots cs) (put cs p 49)]) = (hang f cs).map (fwP f cs) := by
    refine List.map_congr_left fun p hp => ?_
    obtain ⟨h3, h4⟩ := hang_mem hp
    have h5 := put_dots (z := 48) h4 rfl
    have h6 := put_dots (z := 49) h4 rfl
    unfold fwP
    rw [fw_dots _ (by omega), fw_dots _ (cs := put cs p 49) (by omega)]
  rw [this]
def mkU (m : Nat) : List Key := wordKs [48, 49, 46] m
theorem mkU_len {m : Nat} (h : m ≤ 6) : (mkU m).length ≤ 729 := by
  unfold mkU
  rw [wordKs_len]
  exact Nat.pow_le_pow_right (n := 3) (by decide) h
theorem mark_or {c : Nat} (h : mark c = true) : c = 48 ∨ c = 49 ∨ c = 46 := by
  unfold mark at h
  rcases Bool.or_eq_true_iff.mp h with h | h
  · rcases bit_or h with h | h
    · exact .inl h
    · exact .inr (.inl h)
  · exact .inr (.inr (beq_iff_eq.mp h))
theorem mkU_mem {m : Nat} {cs : List Nat} (h : marks cs) (hl : cs.length = m) : (.inr (mkS cs) : Key) ∈ mkU m := wordKs_mem (fun c hc => by
  rcases mark_or (h c hc) with rfl | rfl | rfl <;> decide) hl
theorem minO_snoc (z : List Int) (b : Int) : (minO (z ++ [b])) = (match minO z with
    | .int a => .int (if b < a then b else a)
    | _ => .int b) := by
  cases z with
  | nil => rfl
  | cons a r => show D.int (minL a (r ++ [b])) = _; rw [minL_snoc]; rfl
/-- fewest_from -/
theorem e_fewest_from {m : Nat} {f : List Nat} (hf : fact f m) : ∀ (d : Nat) {k n : Nat} {cs : List Nat} {S : List O} {o : O}, dots cs ≤ d → marks cs → cs.length = m → d + 4 ≤ k → S[n]? = some o → MemO (mkU m) (fun q => .int (fwS f (keyL q))) o →
    ∃ o', callD tl.ct (k + 1) F_fewest_from [.ref n, .str f, .str cs] S = .ok (.int (fwS f cs)) (S.set n o') ∧ MemO (mkU m) (fun q => .int (fwS f (keyL q))) o' := by
  intro d
  induction d using Nat.strongRecOn with
  | ind d ih =>
  intro k n cs S o hd hc hl hk hS hO
  obtain ⟨ks, vs, rfl, hM⟩ := id hO
  have hm := hf.2.2.2
  have hn := get_lt hS
  rw [run_fewest_from]
  simp -dsimp [b_fewest_from, in_dK hS]
  cases hlk : lookK ks vs (.inr (mkS cs)) with
  | some w =>
    have hw := hM.val _ w hlk
    rw [keyL_kS] at hw
    subst hw
    refine ⟨_, ?_, hO⟩
    simp -dsimp [idx_dK hS hlk, set_id hS]
  | none =>
    obtain ⟨k, rfl⟩ : ∃ j, k = j + 3 := ⟨k - 3, by omega⟩
    simp -dsimp [e_hanging_at hf hc hl]
    rw [fb_asc]
    obtain ⟨J, hJ⟩ := shut (fun (z : List Nat) (ρ : Env') (S' : List O) => ∃ o x y, ρ = [some (.ref n), some (.str f), some (.str cs), some (minO (z.map (fwP f cs))), x, y, none] ∧ S' = S.set n o ∧ MemO (mkU m) (fun q => .int (fwS f (keyL q))) o)
    refine fr_NK (P := fun g => ∃ o', gcR S (fin g) = R.ok (.int (fwS f cs)) (S.set n o') ∧ MemO (mkU m) (fun q => .int (fwS f (keyL q))) o') (fun p : Nat => D.int (p : Int))
      J (fun z p => z ++ [p]) (z := []) (by rw [hJ]; exact ⟨_, none, none, rfl, (set_id hS).symm, hO⟩) ?_ ?_
    · intro ys p zs he ρ S1 hh
      rw [hJ] at hh
      obtain ⟨o1, x, y, rfl, rfl, hO1⟩ := hh
      rw [foldl_snoc, List.nil_append]
      obtain ⟨h3, h4⟩ := hang_mem (f := f) (cs := cs) (p := p) (by rw [he]; simp)
      refine ⟨_, rfl, ?_⟩
      simp -dsimp
      generalize hr : gcR _ (lcE _ _ _ _) = r
      obtain ⟨o2, rfl, hO2⟩ := lcE_res hr (n := n) (o := o1) (xs := [48, 49]) (Q := MemO (mkU m) (fun q => .int (fwS f (keyL q)))) (fun c => D.str [c]) (fun c => .int (fwS f (put cs p c))) rfl (by simp [hn]) hO1 (fun o h => h.cl _) (by
        intro c hc2 o3 acc hO3
        have hb : bit c = true := by simp at hc2; rcases hc2 with rfl | rfl <;> rfl
        have h5 := put_dots h4 hb
        obtain ⟨o4, e4, hO4⟩ := ih (dots (put cs p c)) (by omega) (k := k + 2) (n := n) (cs := put cs p c) (S := (S.set n o1).set n o3 ++ [.lst acc]) (o := o3) (Nat.le_refl _) (put_marks hc (by unfold mark; rw [hb]; rfl)) (by rw [put_len h3, hl]) (by omega) (by rw [List.set_set]; exact st_get hn _ _) hO3
        refine ⟨o4, ?_, hO4⟩
        have e5 : ((S.set n o1).set n o3 ++ [O.lst acc]).set n o4 = (S.set n o1).set n o4 ++ [.lst acc] := by
          simp only [List.set_set]; exact st_set hn _ _ _
        rw [e5] at e4
        simp only [List.set_set] at e4 ⊢
        simp -dsimp [e_with_sign' cs c p _ (show cs.length ≤ 5000 by omega) h3, e4]) (by simp) (fun _ _ => rfl)
      have e6 : ∀ T, maxD [.lst ([48, 49].map fun c => D.int (fwS f (put cs p c)))] T = .ok (.int (maxL (fwS f (put cs p 48)) [fwS f (put cs p 49)])) T := fun T => max_lst rfl
      simp -dsimp [-List.map_cons, e6]
      have e7 : 1 + maxL (fwS f (put cs p 48)) [fwS f (put cs p 49)] = fwP f cs p := rfl
      rw [e7]
      cases hys : ys with
      | nil =>
        simp -dsimp [minO, isD]
        exact Nx.mk (by rw [hJ]; exact ⟨o2, _, _, rfl, rfl, hO2⟩)
      | cons q qs =>
        simp -dsimp [minO, isD]
        have hv : minO ((q :: (qs ++ [p])).map (fwP f cs)) = .int (if fwP f cs p < minL (fwP f cs q) (qs.map (fwP f cs)) then fwP f cs p else minL (fwP f cs q) (qs.map (fwP f cs))) := by
          show D.int (minL (fwP f cs q) ((qs ++ [p]).map (fwP f cs))) = _
          rw [List.map_append, List.map_cons, List.map_nil, minL_snoc]
        exact Nx.mk (by rw [hJ]; dsimp only; rw [hv]; exact ⟨o2, _, _, rfl, rfl, hO2⟩)
    · intro ρ2 S2 hh
      rw [hJ] at hh
      obtain ⟨o1, x, y, rfl, rfl, ks1, vs1, rfl, hM1⟩ := hh
      rw [foldl_snoc, List.nil_append]
      have hz := hM1.le
      have hu := mkU_len hm
      have hv : minO ((hang f cs).map (fwP f cs)) = .non ∧ fwS f cs = 0 ∨ minO ((hang f cs).map (fwP f cs)) = .int (fwS f cs) := by
        rw [fwS_eq]
        cases hang f cs with
        | nil => exact .inl ⟨rfl, rfl⟩
        | cons q qs => exact .inr rfl
      have e8 : ∀ w : D, lookK (putKs ks1 (.inr (mkS cs))) (putVs ks1 vs1 (.inr (mkS cs)) w) (.inr (mkS cs)) = some w := fun w => hM1.got
      have hn1 : (S.set n (O.dK ks1 vs1))[n]? = some (O.dK ks1 vs1) := by simp [hn]
      have e9 : ∀ w : D, ∀ T : List O, (S.set n (O.dK (putKs ks1 (.inr (mkS cs))) (putVs ks1 vs1 (.inr (mkS cs)) w)))[n]? = some (O.dK (putKs ks1 (.inr (mkS cs))) (putVs ks1 vs1 (.inr (mkS cs)) w)) := fun w T => by simp [hn]
      have fin1 : ∃ o', gcR S (R.ok (D.int (fwS f cs)) (S.set n (O.dK (putKs ks1 (.inr (mkS cs))) (putVs ks1 vs1 (.inr (mkS cs)) (.int (fwS f cs)))))) = R.ok (.int (fwS f cs)) (S.set n o') ∧ MemO (mkU m) (fun q => .int (fwS f (keyL q))) o' := by
        have hO' := MemO.put hM1 (k := .inr (mkS cs)) (w := .int (fwS f cs)) (mkU_mem hc hl) rfl (by rw [keyL_kS])
        refine ⟨_, ?_, hO'⟩
        have := gcR_one (T := []) (d := .int (fwS f cs)) rfl (hO'.cl S.length) hn
        rwa [List.append_nil] at this
      rcases hv with ⟨hv, h0⟩ | hv
      · rw [hv]
        rw [h0] at fin1 ⊢
        simp -dsimp [isD, set_dK hn1 (cs := cs) (show ks1.length ≤ 100000 by omega), idx_dK (e9 _ S) (cs := cs) (e8 _)]
        exact fin1
      · rw [hv]
        simp -dsimp [isD, set_dK hn1 (cs := cs) (show ks1.length ≤ 100000 by omega), idx_dK (e9 _ S) (cs := cs) (e8 _)]
        exact fin1
end LK82
end
section
set_option Elab.async false
set_option linter.all false
set_option maxRecDepth 100000
set_option maxHeartbeats 1000000
set_option autoImplicit false
namespace LK82
open PySem PySem.Spec PyProof.Rows L2 Ev
section
variable (f : List Nat)
def twB (cs : List Nat) (p : Nat) : Bool := fwP f cs p == fwS f cs
/-- a look tree of the least depth -/
def tw : Nat → List Nat → D
  | 0, _ => .tup []
  | d + 1, cs => match (hang f cs).find? (twB f cs) with
    | some p => .tup [.int (p : Nat), tw d (put cs p 48), tw d (put cs p 49)]
    | none => .tup []
def twS (cs : List Nat) : D := tw f (dots cs) cs
end
theorem tw_dots {f : List Nat} : ∀ (d : Nat) {cs : List Nat}, dots cs ≤ d → tw f d cs = twS f cs
  | 0, cs, h => by unfold twS; rw [Nat.le_zero.mp h]
  | d + 1, cs, h => by
    rcases Nat.lt_or_ge (dots cs) (d + 1) with h2 | h2
    · cases hd : dots cs with
      | zero =>
        unfold twS
        rw [hd]
        unfold tw
        rw [hang_0 hd]; rfl
      | succ n =>
        unfold twS
        rw [hd]
        unfold tw
        cases hf : (hang f cs).find? (twB f cs) with
        | none => rfl
        | some p =>
          obtain ⟨h3, h4⟩ := hang_mem (List.mem_of_find?_eq_some hf)
          have h5 := put_dots (z := 48) h4 rfl
          have h6 := put_dots (z := 49) h4 rfl
          show D.tup [_, _, _] = D.tup [_, _, _]
          rw [tw_dots d (by omega), tw_dots n (by omega), tw_dots d (cs := put cs p 49) (by omega), tw_dots n (cs := put cs p 49) (by omega)]
    · unfold twS
      rw [show dots cs = d + 1 by omega]
theorem twS_eq {f cs : List Nat} : twS f cs = (match (hang f cs).find? (twB f cs) with
    | some p => .tup [.int (p : Nat), twS f (put cs p 48), twS f (put cs p 49)]
    | none => .tup []) := by
  rw [← tw_dots (dots cs + 1) (by omega)]
  unfold tw
  cases hf : (hang f cs).find? (twB f cs) with
  | none => rfl
  | some p =>
    obtain ⟨h3, h4⟩ := hang_mem (List.mem_of_find?_eq_some hf)
    have h5 := put_dots (z := 48) h4 rfl
    have h6 := put_dots (z := 49) h4 rfl
    show D.tup [_, _, _] = D.tup [_, _, _]
    rw [tw_dots _ (by omega), tw_dots _ (cs := put cs p 49) (by omega)]
theorem tw_nr (f : List Nat) : ∀ (d : Nat) (cs : List Nat), nrD (tw f d cs) = true
  | 0, _ => rfl
  | d + 1, cs => by
    unfold tw
    split
    · show (true && (nrD (tw f d _) && (nrD (tw f d _) && true))) = true
      rw [tw_nr f d, tw_nr f d]; rfl
    · rfl
theorem twS_nr (f cs : List Nat) : nrD (twS f cs) = true := tw_nr f _ cs
/-- tree_from -/
theorem e_tree_from {m : Nat} {f : List Nat} (hf : fact f m) : ∀ (d : Nat) {k n : Nat} {cs : List Nat} {S : List O} {o : O}, dots cs ≤ d → marks cs → cs.length = m → 2 * d + 6 ≤ k → S[n]? = some o → MemO (mkU m) (fun q => .int (fwS f (keyL q))) o →
    ∃ o', callD tl.ct (k + 1) F_tree_from [.ref n, .str f, .str cs] S = .ok (twS f cs) (S.set n o') ∧ MemO (mkU m) (fun q => .int (fwS f (keyL q))) o' := by
  intro d
  induction d using Nat.strongRecOn with
  | ind d ih =>
  intro k n cs S o hd hc hl hk hS hO
  have hm := hf.2.2.2
  have hn := get_lt hS
  have hdots : dots cs ≤ m := by unfold dots; rw [← hl]; exact List.count_le_length
  obtain ⟨k, rfl⟩ : ∃ j, k = j + 3 := ⟨k - 3, by omega⟩
  rw [run_tree_from]
  simp -dsimp [b_tree_from, e_hanging_at hf hc hl]
  obtain ⟨J, hJ⟩ := shut (fun (z : List Nat) (ρ : Env') (S' : List O) => (∀ p ∈ z, twB f cs p = false) ∧ ∃ o x y, ρ = [some (.ref n), some (.str f), some (.str cs), x, y, none, none] ∧ S' = S.set n o ∧ MemO (mkU m) (fun q => .int (fwS f (keyL q))) o)
  refine fr_X (P := fun g => ∃ o', gcR S (fin g) = R.ok (twS f cs) (S.set n o') ∧ MemO (mkU m) (fun q => .int (fwS f (keyL q))) o') (fun p : Nat => D.int (p : Int)) J (gd := []) (fun _ _ _ _ => trivial) (ys := [])
    (by rw [hJ]; exact ⟨by simp, _, none, none, rfl, (set_id hS).symm, hO⟩) ?_ ?_
  · intro us p vs he ρ S1 hh
    rw [hJ, List.nil_append] at hh
    obtain ⟨hu, o1, x, y, rfl, rfl, hO1⟩ := hh
    obtain ⟨h3, h4⟩ := hang_mem (f := f) (cs := cs) (p := p) (by rw [he]; simp)
    have hp1 : ∀ c, bit c = true → dots (put cs p c) + 1 = dots cs ∧ marks (put cs p c) ∧ (put cs p c).length = m := fun c hb => ⟨put_dots h4 hb, put_marks hc (by unfold mark; rw [hb]; rfl), by rw [put_len h3, hl]⟩
    have hg1 : ∀ o : O, (S.set n o)[n]? = some o := fun o => by simp [hn]
    refine ⟨_, rfl, ?_⟩
    simp -dsimp
    generalize hr : gcR _ (lcE _ _ _ _) = r
    have hr := lc_resV hr (xs := [48, 49]) (fun c => D.str [c]) (fun c => .str (put cs p c)) rfl (fun c _ T => by
      simp -dsimp [e_with_sign' cs c p _ (show cs.length ≤ 5000 by omega) h3]) (by simp) (fun _ _ => rfl)
    subst hr
    simp -dsimp [-List.map_cons]
    generalize hr : gcR _ (lcE _ _ _ _) = r
    obtain ⟨o2, rfl, hO2⟩ := lcE_res hr (n := n) (o := o1) (xs := [48, 49]) (Q := MemO (mkU m) (fun q => .int (fwS f (keyL q)))) (fun c => D.str (put cs p c)) (fun c => .int (fwS f (put cs p c))) rfl (hg1 _) hO1 (fun o h => h.cl _) (by
      intro c hc2 o3 acc hO3
      have hb : bit c = true := by simp at hc2; rcases hc2 with rfl | rfl <;> rfl
      obtain ⟨a1, a2, a3⟩ := hp1 c hb
      obtain ⟨o4, e4, hO4⟩ := e_fewest_from hf (dots (put cs p c)) (k := k + 2) (n := n) (cs := put cs p c) (S := S.set n o3 ++ [.lst acc]) (o := o3) (Nat.le_refl _) a2 a3 (by omega) (st_get hn _ _) hO3
      refine ⟨o4, ?_, hO4⟩
      rw [st_set hn] at e4
      simp only [List.set_set] at e4 ⊢
      simp -dsimp [e4]) (by simp) (fun _ _ => rfl)
    have e6 : ∀ T, maxD [.lst ([48, 49].map fun c => D.int (fwS f (put cs p c)))] T = .ok (.int (maxL (fwS f (put cs p 48)) [fwS f (put cs p 49)])) T := fun T => max_lst rfl
    have e7 : 1 + maxL (fwS f (put cs p 48)) [fwS f (put cs p 49)] = fwP f cs p := rfl
    obtain ⟨o3, e3, hO3⟩ := e_fewest_from hf (dots cs) (k := k + 2) (n := n) (cs := cs) (S := S.set n o2) (Nat.le_refl _) hc hl (by omega) (hg1 _) hO2
    rw [List.set_set] at e3
    rw [List.set_set]
    simp -dsimp [-List.map_cons, e6, e7, e3, eqS_i]
    by_cases hq : fwP f cs p = fwS f cs
    · have hb : twB f cs p = true := by unfold twB; simp [hq]
      have hfind : (hang f cs).find? (twB f cs) = some p := by
        rw [he, List.find?_append]
        have : us.find? (twB f cs) = none := List.find?_eq_none.mpr fun q hq => by rw [hu q hq]; decide
        rw [this]
        simp [hb]
      obtain ⟨a1, a2, a3⟩ := hp1 48 rfl
      obtain ⟨b1, b2, b3⟩ := hp1 49 rfl
      obtain ⟨o4, e4, hO4⟩ := ih (dots (put cs p 48)) (by omega) (k := k + 2) (n := n) (cs := put cs p 48) (S := S.set n o3) (Nat.le_refl _) a2 a3 (by omega) (hg1 _) hO3
      obtain ⟨o5, e5, hO5⟩ := ih (dots (put cs p 49)) (by omega) (k := k + 2) (n := n) (cs := put cs p 49) (S := S.set n o4) (Nat.le_refl _) b2 b3 (by omega) (hg1 _) hO4
      rw [List.set_set] at e4 e5
      have i0 : ∀ T, idxD (.lst ([48, 49].map fun c => D.str (put cs p c))) (.int 0) T = .ok (.str (put cs p 48)) T := fun T => rfl
      have i1 : ∀ T, idxD (.lst ([48, 49].map fun c => D.str (put cs p c))) (.int 1) T = .ok (.str (put cs p 49)) T := fun T => rfl
      refine .inr ⟨?_, fun ρ2 S2 => ?_⟩
      · simp -dsimp [-List.map_cons, hq, i0, i1, e4, e5, nat_sz]
        refine ⟨o5, ?_, hO5⟩
        have hv : twS f cs = .tup [.int (p : Nat), twS f (put cs p 48), twS f (put cs p 49)] := by rw [twS_eq, hfind]
        rw [hv]
        have := gcR_one (T := []) (d := .tup [.int (p : Nat), twS f (put cs p 48), twS f (put cs p 49)]) (nr_cl _ (by rw [← hv]; exact twS_nr f cs)) (hO5.cl S.length) hn
        rwa [List.append_nil] at this
      · simp -dsimp [-List.map_cons, hq, i0, i1, e4, e5, nat_sz]
    · refine .inl ?_
      simp -dsimp [hq]
      refine Nx.mk ?_
      rw [hJ]
      refine ⟨fun q hq2 => ?_, o3, _, _, rfl, rfl, hO3⟩
      rcases List.mem_append.mp hq2 with hq2 | hq2
      · exact hu q hq2
      · rw [List.mem_singleton.mp hq2]
        unfold twB
        simpa using hq
  · intro ρ2 S2 hh
    rw [hJ, List.nil_append] at hh
    obtain ⟨hu, o1, x, y, rfl, rfl, hO1⟩ := hh
    have hfind : (hang f cs).find? (twB f cs) = none := List.find?_eq_none.mpr fun q hq => by rw [hu q hq]; decide
    have hv : twS f cs = .tup [] := by rw [twS_eq, hfind]
    simp -dsimp [nat_sz]
    rw [hv]
    refine ⟨o1, ?_, hO1⟩
    have := gcR_one (T := []) (d := .tup []) rfl (hO1.cl S.length) hn
    rwa [List.append_nil] at this
/-- fewest_looks -/
theorem e_fewest_looks {k m : Nat} {f : List Nat} (hf : fact f m) (S : List O) : callD tl.ct (k + 25) F_fewest_looks [.str f] S = .ok (.tup [.int (fwS f (List.replicate m 46)), twS f (List.replicate m 46)]) S := by
  have hm := hf.2.2.2
  obtain ⟨o1, e1, h1⟩ := e_fewest_from hf m (k := k + 23) (n := S.length) (cs := List.replicate m 46) (S := S ++ [.dK [] []]) (by rw [dots_dots]; omega) dots_marks (by simp) (by omega) (by simp) MemO.nil
  have e1b : (S ++ [O.dK [] []]).set S.length o1 = S ++ [o1] := by simp
  rw [e1b] at e1
  obtain ⟨o2, e2, h2⟩ := e_tree_from hf m (k := k + 23) (n := S.length) (cs := List.replicate m 46) (S := S ++ [o1]) (by rw [dots_dots]; omega) dots_marks (by simp) (by omega) (by simp) h1
  have e2b : (S ++ [o1]).set S.length o2 = S ++ [o2] := by simp
  rw [e2b] at e2
  rw [run_fewest_looks]
  simp -dsimp [b_fewest_looks, e_check_fact hf, mul_dot (show m ≤ 10 by omega), e1, e2, nat_sz]
  refine gcR_val (nr_cl _ ?_)
  simp [twS_nr]
theorem e_fewest_looks_bad {k : Nat} {x : D} {S : List O} (h : ∀ k, callD tl.ct (k + 2) F_places_of_fact [x] S = .ok .non S) : callD tl.ct (k + 25) F_fewest_looks [x] S = .ex ⟨C_BadFact, [], []⟩ S := by
  rw [run_fewest_looks]
  simp -dsimp [b_fewest_looks, e_check_fact_no h]
end LK82
end
section
set_option Elab.async false
set_option linter.all false
set_option maxRecDepth 100000
set_option maxHeartbeats 1000000
set_option autoImplicit false
namespace LK82
open PySem PySem.Spec PyProof.Rows L2 Ev
/-- is_integer -/
theorem e_is_integer {k : Nat} {x : D} {S : List O} (h : plD x = true) : callD tl.ct (k + 1) F_is_integer [x] S = .ok (.bl (isIntD x)) S := by
  rw [run_is_integer]
  cases x <;> first | (cases h; done) | simp -dsimp [b_is_integer, isIntD]
/-- is it a look tree from marks on, at most l deep -/
def ltB (f : List Nat) (x : D) (cs : List Nat) (l : Int) : Bool := match x with
  | .tup [] => (hang f cs).isEmpty
  | .tup [.int p, a, b] => !(hang f cs).isEmpty && (l != 0 && (decide (0 ≤ p) && ((hang f cs).contains p.toNat && (ltB f a (put cs p.toNat 48) (l - 1) && ltB f b (put cs p.toNat 49) (l - 1)))))
  | _ => false
termination_by sizeOf x
structure Wt where
  cs : List Nat
  l : Int
  x : D
def Wt.d (w : Wt) : D := .tup [.str w.cs, .int w.l, w.x]
def wtM (ws : List Wt) : Nat := (ws.map fun w => 3 ^ dots w.cs).sum
theorem wtM_snoc (ws : List Wt) (w : Wt) : wtM (ws ++ [w]) = wtM ws + 3 ^ dots w.cs := by simp [wtM]
theorem wtM_len (ws : List Wt) : ws.length ≤ wtM ws := by
  induction ws with
  | nil => simp
  | cons w ws ih =>
    have : 1 ≤ 3 ^ dots w.cs := Nat.pow_pos (by decide)
    simp [wtM] at ih ⊢; omega
def Wt.ok (f : List Nat) (w : Wt) : Bool := ltB f w.x w.cs w.l
theorem lt_t0 {f cs : List Nat} {l : Int} : ltB f (.tup []) cs l = (hang f cs).isEmpty := by unfold ltB; rfl
theorem lt_t3 {f cs : List Nat} {l p : Int} {a b : D} : ltB f (.tup [.int p, a, b]) cs l = (!(hang f cs).isEmpty && (l != 0 && (decide (0 ≤ p) && ((hang f cs).contains p.toNat && (ltB f a (put cs p.toNat 48) (l - 1) && ltB f b (put cs p.toNat 49) (l - 1)))))) := by rw [ltB]
theorem lt_n {f cs : List Nat} {l : Int} {x : D} (h : isTupD x = false) : ltB f x cs l = false := by
  unfold ltB
  split
  · cases h
  · cases h
  · rfl
theorem lt_h {f cs : List Nat} {l : Int} {ts : List D} (h : hang f cs = []) (hn : ts ≠ []) : ltB f (.tup ts) cs l = false := by
  unfold ltB
  split
  · rename_i e; cases e; exact absurd rfl hn
  · rw [h]; rfl
  · rfl
theorem lt_l {f cs : List Nat} {l : Int} {ts : List D} (h : ts.length ≠ 3) (hn : ts ≠ []) : ltB f (.tup ts) cs l = false := by
  unfold ltB
  split
  · rename_i e; cases e; exact absurd rfl hn
  · rename_i e; cases e; exact absurd rfl h
  · rfl
theorem lt_i {f cs : List Nat} {l : Int} {p a b : D} (h : isIntD p = false) : ltB f (.tup [p, a, b]) cs l = false := by
  unfold ltB
  split
  · rename_i e; cases e
  · rename_i e; cases e; cases h
  · rfl
theorem hang_t (f cs : List Nat) : D.tup ((hang f cs).map fun p => .int (p : Nat)) = tupI (hang f cs) := rfl
theorem cut3 {a b c : D} : cutL [a, b, c] (some 1) none = [b, c] := cut_drop (xs := [a, b, c]) (p := 1) (by simp)
theorem e_is_look_tree {k m : Nat} {f : List Nat} (hf : fact f m) {l : Int} (h0 : 0 ≤ l) {x : D} (hx : plD x = true) (S : List O) : callD tl.ct (k + 5) F_is_look_tree [.str f, .int l, x] S = .ok (.bl (ltB f x (List.replicate m 46) l)) S := by
  have hm := hf.2.2.2
  have hl0 : ¬ l < 0 := by omega
  rw [run_is_look_tree]
  simp -dsimp [b_is_look_tree, e_check_fact hf, e_is_integer (show plD (.int l) = true from rfl), isIntD, hl0, mul_dot (show m ≤ 10 by omega), nat_sz]
  obtain ⟨J, hJ⟩ := shut (fun (n : Nat) (ρ : Env') (S' : List O) => ∃ (ws : List Wt) (a b c d e g : Option D), ρ = [some (.str f), some (.int l), some x, some (.int m), some (.ref S.length), a, b, c, d, e, g] ∧ S' = S ++ [.lst (ws.map Wt.d)] ∧ n = wtM ws ∧ n ≤ 729 ∧ (∀ w ∈ ws, marks w.cs ∧ w.cs.length = m ∧ plD w.x = true) ∧ ws.all (Wt.ok f) = ltB f x (List.replicate m 46) l)
  refine wh_K (n := wtM [⟨List.replicate m 46, l, x⟩]) (P := fun g => gcR S (fin g) = R.ok (.bl (ltB f x (List.replicate m 46) l)) S) J ?_ ?_
  · rw [hJ]
    refine ⟨[⟨List.replicate m 46, l, x⟩], none, none, none, none, none, none, rfl, rfl, rfl, ?_, ?_, ?_⟩
    · show 3 ^ dots (List.replicate m 46) + 0 ≤ 729
      rw [dots_dots]
      exact Nat.pow_le_pow_right (n := 3) (by decide) hm
    · intro w hw
      rw [List.mem_singleton.mp hw]
      exact ⟨dots_marks, by simp, hx⟩
    · simp [Wt.ok]
  · intro n ρ S1 hh
    rw [hJ] at hh
    obtain ⟨ws, a, b, c, d, e, g, rfl, rfl, rfl, hn, hw, hres⟩ := hh
    rcases List.eq_nil_or_concat ws with rfl | ⟨us, w, rfl⟩
    · refine .inl ⟨S ++ [.lst []], ?_, ?_⟩
      · have := ne_top (S := S) (ds := [])
        simp -dsimp [this]
      · simp -dsimp
        rw [gcR_val rfl, ← hres]; rfl
    · rw [List.concat_eq_append] at *
      have hmu := wtM_snoc us w
      have hlen := wtM_len us
      obtain ⟨hc, hl, hpx⟩ := hw w (by simp)
      have hw2 : ∀ w ∈ us, marks w.cs ∧ w.cs.length = m ∧ plD w.x = true := fun v hv => hw v (by simp [hv])
      rw [List.all_append] at hres
      have hpos : 1 ≤ 3 ^ dots w.cs := Nat.pow_pos (by decide)
      obtain ⟨cs, lw, xw⟩ := w
      simp only at hc hl hpx hmu hpos
      have hany : [(⟨cs, lw, xw⟩ : Wt)].all (Wt.ok f) = ltB f xw cs lw := by simp [Wt.ok]
      rw [hany] at hres
      have hmap : (us ++ [(⟨cs, lw, xw⟩ : Wt)]).map Wt.d = us.map Wt.d ++ [.tup [.str cs, .int lw, xw]] := by rw [List.map_append]; rfl
      rw [hmap]
      refine .inr ⟨S ++ [.lst (us.map Wt.d ++ [.tup [.str cs, .int lw, xw]])], ?_, ?_⟩
      · have := ne_top (S := S) (ds := us.map Wt.d ++ [.tup [.str cs, .int lw, xw]])
        simp -dsimp [this]
      have hout : ∀ T, ltB f xw cs lw = false → gcR S (R.ok (.bl false) (S ++ T)) = R.ok (.bl (ltB f x (List.replicate m 46) l)) S := fun T h => by
        rw [← hres, h, Bool.and_false]
        exact gcR_val rfl
      have hpop := pop_top (S := S) (ds := us.map Wt.d) (w := .tup [.str cs, .int lw, xw])
      by_cases ht : isTupD xw = true
      · cases xw <;> first | (cases ht; done) | skip
        rename_i ts
        by_cases hts : ts = []
        · subst hts
          rw [lt_t0] at hout hres
          by_cases hh : hang f cs = []
          · refine .inl ⟨wtM us, by omega, ?_⟩
            simp -dsimp [hpop, e_hanging_at hf hc hl, eqS_t0, hh]
            refine Nx.mk ?_
            rw [hJ]
            exact ⟨us, _, _, _, _, _, _, rfl, rfl, rfl, by omega, hw2, by rw [← hres, hh]; simp⟩
          · have hb : (hang f cs).isEmpty = false := by simpa using hh
            refine .inr ?_
            simp -dsimp [hpop, e_hanging_at hf hc hl, eqS_t0, hb]
            exact hout _ hb
        · have htb : ts.isEmpty = false := by simpa using hts
          by_cases hh : hang f cs = []
          · refine .inr ?_
            simp -dsimp [hpop, e_hanging_at hf hc hl, eqS_t0, hh, hts]
            exact hout _ (lt_h hh hts)
          · have hb : (hang f cs).isEmpty = false := by simpa using hh
            by_cases h3 : ts.length = 3
            · obtain ⟨p, y, z, rfl⟩ : ∃ p y z, ts = [p, y, z] := by
                match ts, h3 with
                | [p, y, z], _ => exact ⟨p, y, z, rfl⟩
              have hpl : plD p = true ∧ plD y = true ∧ plD z = true := by
                have := show (plD p && (plD y && (plD z && true))) = true from hpx
                simpa using this
              by_cases hp : isIntD p = true
              · cases p <;> first | (cases hp; done) | skip
                rename_i i
                have hin : ∀ T, inDS true (.int i) (.tup ((hang f cs).map fun p => .int (p : Nat))) T = .ok (.bl (true != (decide (0 ≤ i) && (hang f cs).contains i.toNat))) T := fun T => in_tupI
                rw [lt_t3, hb] at hres hout
                by_cases hl1 : lw = 0
                · subst hl1
                  refine .inr ?_
                  simp -dsimp [hpop, e_hanging_at hf hc hl, eqS_t0, hb]
                  exact hout _ (by simp)
                · by_cases hi : (decide (0 ≤ i) && (hang f cs).contains i.toNat) = true
                  · have hin : ∀ T, inDS true (.int i) (.tup ((hang f cs).map fun p => .int (p : Nat))) T = .ok (.bl false) T := fun T => by rw [hin, hi]; rfl
                    obtain ⟨hi0, hi1⟩ := Bool.and_eq_true_iff.mp hi
                    have hi0 := of_decide_eq_true hi0
                    obtain ⟨j, rfl⟩ : ∃ j : Nat, i = (j : Int) := ⟨i.toNat, by omega⟩
                    rw [Int.toNat_natCast] at *
                    obtain ⟨h3, h4⟩ := hang_mem (f := f) (cs := cs) (p := j) (by simpa using hi1)
                    have hp1 : ∀ c, bit c = true → dots (put cs j c) + 1 = dots cs ∧ marks (put cs j c) ∧ (put cs j c).length = m := fun c hb => ⟨put_dots h4 hb, put_marks hc (by unfold mark; rw [hb]; rfl), by rw [put_len h3, hl]⟩
                    obtain ⟨a1, a2, a3⟩ := hp1 48 rfl
                    obtain ⟨b1, b2, b3⟩ := hp1 49 rfl
                    have hpw : 3 ^ dots cs = 3 * 3 ^ dots (put cs j 48) := by rw [← a1, Nat.pow_succ, Nat.mul_comm]
                    have hpw2 : 3 ^ dots (put cs j 49) = 3 ^ dots (put cs j 48) := by rw [show dots (put cs j 49) = dots (put cs j 48) by omega]
                    have hz1 : 1 ≤ 3 ^ dots (put cs j 48) := Nat.pow_pos (by decide)
                    refine .inl ⟨wtM (us ++ [⟨put cs j 48, lw - 1, y⟩, ⟨put cs j 49, lw - 1, z⟩]), ?_, ?_⟩
                    · rw [show us ++ [(⟨put cs j 48, lw - 1, y⟩ : Wt), ⟨put cs j 49, lw - 1, z⟩] = (us ++ [⟨put cs j 48, lw - 1, y⟩]) ++ [⟨put cs j 49, lw - 1, z⟩] by simp, wtM_snoc, wtM_snoc]
                      simp only
                      omega
                    · have hsl : ∀ T, sliceD (.tup [.int (j : Nat), y, z]) (some 1) none T = .ok (.tup [y, z]) T := fun T => by
                        show R.ok (D.tup (cutL _ _ _)) T = _
                        rw [cut3]
                      simp -dsimp [hpop, e_hanging_at hf hc hl, eqS_t0, hb, hl1, e_is_integer hpl.1, isIntD, hin, hsl, zipS, e_with_sign' cs 48 j _ (show cs.length ≤ 5000 by omega) h3, e_with_sign' cs 49 j _ (show cs.length ≤ 5000 by omega) h3, nat_sz, app_top (show (us.map Wt.d).length ≤ 100000 by rw [List.length_map]; omega), app_top (show ((us.map Wt.d) ++ [D.tup [.str (put cs j 48), .int (lw - 1), y]]).length ≤ 100000 by rw [List.length_append, List.length_map]; simp; omega)]
                      refine Nx.mk ?_
                      rw [hJ]
                      refine ⟨us ++ [⟨put cs j 48, lw - 1, y⟩, ⟨put cs j 49, lw - 1, z⟩], _, _, _, _, _, _, rfl, by simp [Wt.d], rfl, ?_, ?_, ?_⟩
                      · rw [show us ++ [(⟨put cs j 48, lw - 1, y⟩ : Wt), ⟨put cs j 49, lw - 1, z⟩] = (us ++ [⟨put cs j 48, lw - 1, y⟩]) ++ [⟨put cs j 49, lw - 1, z⟩] by simp, wtM_snoc, wtM_snoc]
                        simp only
                        omega
                      · intro v hv
                        rcases List.mem_append.mp hv with hv | hv
                        · exact hw2 v hv
                        · simp at hv
                          rcases hv with rfl | rfl
                          · exact ⟨a2, a3, hpl.2.1⟩
                          · exact ⟨b2, b3, hpl.2.2⟩
                      · rw [← hres]
                        have e1 : (lw != 0) = true := by simpa using hl1
                        rw [e1, hi1, List.all_append, show decide ((0 : Int) ≤ (j : Nat)) = true from decide_eq_true (by omega)]
                        simp [Wt.ok]
                  · have hi : (decide (0 ≤ i) && (hang f cs).contains i.toNat) = false := by simpa using hi
                    have hin : ∀ T, inDS true (.int i) (.tup ((hang f cs).map fun p => .int (p : Nat))) T = .ok (.bl true) T := fun T => by rw [hin, hi]; rfl
                    refine .inr ?_
                    simp -dsimp [hpop, e_hanging_at hf hc hl, eqS_t0, hb, hl1, e_is_integer hpl.1, isIntD, hin]
                    refine hout _ ?_
                    rw [← Bool.and_assoc (decide (0 ≤ i)), hi]
                    simp
              · have hp : isIntD p = false := by simpa using hp
                have hd := lt_i (f := f) (cs := cs) (l := lw) (a := y) (b := z) hp
                refine .inr ?_
                by_cases hl1 : lw = 0
                · subst hl1
                  simp -dsimp [hpop, e_hanging_at hf hc hl, eqS_t0, hb]
                  exact hout _ hd
                · simp -dsimp [hpop, e_hanging_at hf hc hl, eqS_t0, hb, hl1, e_is_integer hpl.1, hp]
                  exact hout _ hd
            · refine .inr ?_
              have h3 : ¬ (ts.length : Int) = 3 := by omega
              simp -dsimp [hpop, e_hanging_at hf hc hl, eqS_t0, hb, hts, eqS_i, h3]
              exact hout _ (lt_l (by omega) hts)
      · have ht : isTupD xw = false := by simpa using ht
        refine .inr ?_
        cases xw <;> first | (cases ht; done) | (cases hpx; done) | (simp -dsimp [hpop, e_hanging_at hf hc hl]; exact hout _ (lt_n ht))
/-- errors -/
theorem e_is_look_tree_fact {k : Nat} {x y z : D} {S : List O} (h : ∀ k, callD tl.ct (k + 2) F_places_of_fact [x] S = .ok .non S) : callD tl.ct (k + 5) F_is_look_tree [x, y, z] S = .ex ⟨C_BadFact, [], []⟩ S := by
  rw [run_is_look_tree]
  simp -dsimp [b_is_look_tree, e_check_fact_no h]
def depthB : D → Bool
  | .int i => decide (0 ≤ i)
  | _ => false
theorem e_is_look_tree_depth {k m : Nat} {f : List Nat} {y z : D} (hf : fact f m) (hy : plD y = true) (h : depthB y = false) (hn : nrD y = true) (S : List O) : callD tl.ct (k + 5) F_is_look_tree [.str f, y, z] S = .ex ⟨C_BadDepth, [A_depth], [y]⟩ S := by
  rw [run_is_look_tree]
  by_cases hi : isIntD y = true
  · cases y <;> first | (cases hi; done) | skip
    rename_i i
    have h2 : i < 0 := by
      have := of_decide_eq_false (show decide (0 ≤ i) = false from h)
      omega
    simp -dsimp [b_is_look_tree, e_check_fact hf, e_is_integer hy, isIntD, h2]
    exact gcR_ex1 (nr_cl _ hn)
  · simp -dsimp [b_is_look_tree, e_check_fact hf, e_is_integer hy, hi]
    exact gcR_ex1 (nr_cl _ hn)
end LK82
end
section
set_option Elab.async false
set_option linter.all false
set_option maxRecDepth 100000
set_option maxHeartbeats 1000000
set_option autoImplicit false
namespace LK82
open PySem PySem.Spec PyProof.Rows L2 Ev
/-- a lot of places with its size -/
def szD (ps : List Nat) : D := .tup [.int (ps.length : Nat), tupI ps]
/-- the lots by size -/
def lotsZ (m : Nat) : List (List Nat) := (lotsO m).mergeSort fun a b => leD (szD a) (szD b)
theorem nr_szD (ps : List Nat) : nrD (szD ps) = true := by
  show (true && (nrD (tupI ps) && true)) = true
  rw [nr_tupI]; rfl
theorem sh_szD (ps : List Nat) : shD (szD ps) = true := by
  have h1 := ok_tupI ps
  have h2 := depth_tupI ps
  show ((true && (okD (tupI ps) && true)) && decide ((PyData.tuple [.int _, pyD (tupI ps)]).depth ≤ 60)) = true
  rw [h1]
  simp [PyData.depth, PyData.depthAll]
  omega
theorem alike_szD (a b : List Nat) : PySem.W.alike (pyD (szD a)) (pyD (szD b)) = true := by
  show PySem.W.alike (.tuple [.int _, pyD (tupI a)]) (.tuple [.int _, pyD (tupI b)]) = true
  rw [PySem.W.alike, PySem.W.alikeAll, PySem.W.alikeAll, PySem.W.alikeAll, alike_tupI]
  rfl
theorem szD_srt (xs : List (List Nat)) : srtB (xs.map szD) = true := by
  refine srt_of (fun d hd => ?_) (fun d hd e he => ?_) (.inl fun d hd => ?_)
  · obtain ⟨p, _, rfl⟩ := List.mem_map.mp hd; exact sh_szD p
  · obtain ⟨p, _, rfl⟩ := List.mem_map.mp hd
    obtain ⟨q, _, rfl⟩ := List.mem_map.mp he
    exact alike_szD p q
  · obtain ⟨p, _, rfl⟩ := List.mem_map.mp hd; rfl
theorem lots0_len (m : Nat) : (lots0 m).length = 2 ^ m := by
  unfold lots0
  rw [lotsA_fold]
  simp
theorem lotsO_mem {m : Nat} {ps : List Nat} : ps ∈ lotsO m ↔ ps ∈ lots0 m := sort_map_mem
theorem lotsO_len (m : Nat) : (lotsO m).length = 2 ^ m := by
  unfold lotsO
  rw [List.length_mergeSort, lots0_len]
theorem lotsZ_mem {m : Nat} {ps : List Nat} : ps ∈ lotsZ m ↔ ps ∈ lots0 m := by
  unfold lotsZ
  rw [sort_map_mem, lotsO_mem]
theorem lotsA_lt : ∀ {ps : List Nat} {found : List (List Nat)} {n : Nat}, (∀ p ∈ ps, p < n) → (∀ w ∈ found, ∀ p ∈ w, p < n) → ∀ w ∈ ps.foldl lotsA found, ∀ p ∈ w, p < n
  | [], found, n, _, h => h
  | p :: ps, found, n, hp, h => by
    rw [List.foldl_cons]
    refine lotsA_lt (fun q hq => hp q (List.mem_cons_of_mem _ hq)) fun w hw q hq => ?_
    rcases List.mem_append.mp hw with hw | hw
    · exact h w hw q hq
    · obtain ⟨u, hu, rfl⟩ := List.mem_map.mp hw
      rcases List.mem_append.mp hq with hq | hq
      · exact h u hu q hq
      · rw [List.mem_singleton.mp hq]; exact hp p List.mem_cons_self
theorem lots0_lt {m : Nat} {w : List Nat} (h : w ∈ lots0 m) : ∀ p ∈ w, p < m := lotsA_lt (ps := List.range m) (found := [[]]) (fun p hp => List.mem_range.mp hp) (by simp) w h
theorem lotsA_all : ∀ (ps : List Nat) (found : List (List Nat)) (w : List Nat), w ∈ found → w ++ ps ∈ ps.foldl lotsA found
  | [], found, w, h => by simpa using h
  | p :: ps, found, w, h => by
    rw [List.foldl_cons, show w ++ p :: ps = (w ++ [p]) ++ ps by simp]
    refine lotsA_all ps _ _ ?_
    exact List.mem_append.mpr (.inr (List.mem_map.mpr ⟨w, h, rfl⟩))
theorem lots0_all (m : Nat) : List.range m ∈ lots0 m := by
  have := lotsA_all (List.range m) [[]] [] (by simp)
  unfold lots0
  simpa using this
/-- the row's signs at places told -/
def tellP (r : List Nat) (cs : List Nat) (p : Nat) : List Nat := put cs p (gt r p)
def tell (m : Nat) (r ps : List Nat) : List Nat := ps.foldl (tellP r) (List.replicate m 46)
theorem tell_ok {m : Nat} {r : List Nat} (hr : row r m) : ∀ {ps : List Nat} {cs : List Nat}, (∀ p ∈ ps, p < m) → marks cs → cs.length = m → marks (ps.foldl (tellP r) cs) ∧ (ps.foldl (tellP r) cs).length = m
  | [], cs, _, h, hl => ⟨h, hl⟩
  | p :: ps, cs, hp, h, hl => by
    have hp0 := hp p List.mem_cons_self
    rw [List.foldl_cons]
    refine tell_ok hr (fun q hq => hp q (List.mem_cons_of_mem _ hq)) ?_ ?_
    · exact put_marks h (by unfold mark; rw [row_getD hr hp0]; rfl)
    · unfold tellP; rw [put_len (by omega), hl]
theorem put_at {cs : List Nat} {p z i : Nat} (h : p < cs.length) : (put cs p z)[i]? = if i = p then some z else cs[i]? := by
  unfold put
  rw [List.append_assoc]
  rcases Nat.lt_or_ge i p with h1 | h1
  · rw [List.getElem?_append_left (by simp; omega), if_neg (by omega), List.getElem?_take_of_lt h1]
  · rw [List.getElem?_append_right (by simp; omega)]
    have hl : (cs.take p).length = p := by simp; omega
    rw [hl]
    by_cases h2 : i = p
    · subst h2; simp
    · rw [if_neg h2, List.singleton_append]
      obtain ⟨j, rfl⟩ : ∃ j, i = p + 1 + j := ⟨i - p - 1, by omega⟩
      rw [show p + 1 + j - p = j + 1 by omega, List.getElem?_cons_succ, List.getElem?_drop]
/-- what is told at a place -/
theorem tell_at {m : Nat} {r : List Nat} (hr : row r m) : ∀ {ps : List Nat} {cs : List Nat} (i : Nat), (∀ p ∈ ps, p < m) → cs.length = m → (ps.foldl (tellP r) cs)[i]? = if i ∈ ps then some (gt r i) else cs[i]?
  | [], cs, i, _, _ => by simp
  | p :: ps, cs, i, hp, hl => by
    have hp0 := hp p List.mem_cons_self
    rw [List.foldl_cons, tell_at hr i (fun q hq => hp q (List.mem_cons_of_mem _ hq)) (by unfold tellP; rw [put_len (by omega), hl])]
    unfold tellP
    rw [put_at (by omega)]
    by_cases h1 : i ∈ ps
    · simp [h1]
    · by_cases h2 : i = p
      · subst h2; simp
      · simp [h1, h2]
theorem tell_all {m : Nat} {f r : List Nat} (hr : row r m) : hang f (tell m r (List.range m)) = [] := by
  refine hang_0 (List.count_eq_zero.mpr fun hmem => ?_)
  obtain ⟨i, hi, e⟩ := List.mem_iff_getElem.mp hmem
  have hl := (tell_ok hr (ps := List.range m) (cs := List.replicate m 46) (fun p hp => List.mem_range.mp hp) dots_marks (by simp)).2
  have h1 := tell_at hr (ps := List.range m) (cs := List.replicate m 46) i (fun p hp => List.mem_range.mp hp) (by simp)
  have hi2 : i < m := by unfold tell at hi; omega
  rw [if_pos (List.mem_range.mpr hi2)] at h1
  unfold tell at e hi
  rw [List.getElem?_eq_getElem hi, e] at h1
  have h1 := Option.some.inj h1
  have h2 := row_getD hr hi2
  rw [← h1] at h2
  cases h2
/-- the least proof -/
def prB (f : List Nat) (m : Nat) (r ps : List Nat) : Bool := (hang f (tell m r ps)).isEmpty
theorem pr_some {m : Nat} {f r : List Nat} (hr : row r m) : ∃ ps, (lotsZ m).find? (prB f m r) = some ps := by
  cases h : (lotsZ m).find? (prB f m r) with
  | some ps => exact ⟨ps, rfl⟩
  | none =>
    have := List.find?_eq_none.mp h (List.range m) (lotsZ_mem.mpr (lots0_all m))
    unfold prB at this
    rw [tell_all hr] at this
    exact absurd rfl this
/-- proof_for -/
theorem e_proof_for {k m : Nat} {f r ps : List Nat} (hf : fact f m) (hr : row r m) (hps : (lotsZ m).find? (prB f m r) = some ps) (S : List O) : callD tl.ct (k + 6) F_proof_for [.str f, .str r] S = .ok (tupI ps) S := by
  have hm := hf.2.2.2
  have hrb : rowB r = true := bits_all hr.1
  have hrl := hr.2
  rw [run_proof_for]
  simp -dsimp [b_proof_for, e_check_fact hf, e_is_row_of_length r m _ (show r.length ≤ 10000 by omega) (bits_asc hr.1), hrb, hrl, e_all_lots_of_places hm]
  generalize hg : gcR _ (lcE _ _ _ _) = g
  have hg := lc_resV hg tupI szD rfl (fun w hw T => by
    have : lenD [tupI w] T = .ok (.int (w.length : Nat)) T := by
      show R.ok (D.int _) T = _
      rw [List.length_map]
    simp -dsimp [this, nat_sz]
    rfl) (by rw [lotsO_len]; have := Nat.pow_le_pow_right (n := 2) (by decide) hm; omega) (fun w _ => nr_szD w)
  subst hg
  have hsrt := srt_map (S := S) (szD_srt (lotsO m)) (by rw [lotsO_len]; have := Nat.pow_le_pow_right (n := 2) (by decide) hm; omega)
  rw [show ((lotsO m).mergeSort fun a b => leD (szD a) (szD b)) = lotsZ m from rfl] at hsrt
  simp -dsimp [hsrt]
  refine fr_findK (P := fun g => gcR S (fin g) = R.ok (tupI ps) S) szD (fun ρ => ∃ a b c d, ρ = [some (.str f), some (.str r), some (.int (m : Nat)), a, b, c, d]) (prB f m r) tupI ⟨_, _, _, _, rfl⟩ ?_ ?_ ?_
  · rintro w hw ρ ⟨a, b, c, d, rfl⟩
    have hlt := lots0_lt (lotsZ_mem.mp hw)
    have hsrc : ∀ T, srcOf T (tupI w) = some ⟨w.map fun p => .int (p : Nat), []⟩ := fun T => rfl
    have step : ∀ ys x zs, w = ys ++ x :: zs → ∀ ρ, (∃ d, ρ = [some (.str f), some (.str r), some (.int (m : Nat)), some (.int (w.length : Nat)), some (tupI w), some (.str (ys.foldl (tellP r) (List.replicate m 46))), d]) →
        ∃ ρ' ρ2, asT (.nm 6) (.int (x : Nat)) ρ = some ρ' ∧ evSs tl.ct (callD tl.ct (k + 5)) (.cons (.asg (.nm 5) (.call F_with_sign (.cons (.var 5) (.cons (.var 6) (.cons (.idx (.var 1) (.var 6)) .nil))))) .nil) none ρ' S = .nx ρ2 S ∧ (∃ d, ρ2 = [some (.str f), some (.str r), some (.int (m : Nat)), some (.int (w.length : Nat)), some (tupI w), some (.str (tellP r (ys.foldl (tellP r) (List.replicate m 46)) x)), d]) := by
      rintro ys x zs he ρ ⟨d, rfl⟩
      have hx := hlt x (by rw [he]; simp)
      obtain ⟨t1, t2⟩ := tell_ok hr (ps := ys) (cs := List.replicate m 46) (fun q hq => hlt q (by rw [he]; simp [hq])) dots_marks (by simp)
      refine ⟨_, [some (.str f), some (.str r), some (.int (m : Nat)), some (.int (w.length : Nat)), some (tupI w), some (.str (tellP r (ys.foldl (tellP r) (List.replicate m 46)) x)), some (.int (x : Nat))], rfl, ?_, _, rfl⟩
      simp -dsimp [idx_str (cs := r) (n := x) (by omega) (by omega), e_with_sign' (ys.foldl (tellP r) (List.replicate m 46)) (gt r x) x _ (by omega) (by omega)]
      rfl
    obtain ⟨t1, t2⟩ := tell_ok hr (ps := w) (cs := List.replicate m 46) hlt dots_marks (by simp)
    refine ⟨_, rfl, fun hq => ?_, fun hq => ?_⟩
    · simp -dsimp [mul_dot (show m ≤ 10 by omega), hsrc]
      refine fr_foldK (P := fun g => g = Fl.rt (tupI w) S) (fun p : Nat => D.int (p : Nat)) (fun cs ρ => ∃ d, ρ = [some (.str f), some (.str r), some (.int (m : Nat)), some (.int (w.length : Nat)), some (tupI w), some (.str cs), d]) (tellP r) (z := List.replicate m 46) ⟨_, rfl⟩ step ?_
      rintro ρ2 ⟨d, rfl⟩
      unfold prB tell at hq
      simp -dsimp [e_hanging_at hf t1 t2, eqS_t0, hq]
    · simp -dsimp [mul_dot (show m ≤ 10 by omega), hsrc]
      refine fr_foldK (P := fun g => ∃ ρ2, g = Fl.nx ρ2 S ∧ ∃ a b c d, ρ2 = [some (.str f), some (.str r), some (.int (m : Nat)), a, b, c, d]) (fun p : Nat => D.int (p : Nat)) (fun cs ρ => ∃ d, ρ = [some (.str f), some (.str r), some (.int (m : Nat)), some (.int (w.length : Nat)), some (tupI w), some (.str cs), d]) (tellP r) (z := List.replicate m 46) ⟨_, rfl⟩ step ?_
      rintro ρ2 ⟨d, rfl⟩
      unfold prB tell at hq
      simp -dsimp [e_hanging_at hf t1 t2, eqS_t0, hq]
  · intro x e1
    rw [hps] at e1
    cases e1
    rw [fin_rt, gcR_nr (nr_tupI _)]
  · intro e1
    rw [hps] at e1
    cases e1
theorem e_proof_for_row {k m : Nat} {f : List Nat} {x : D} (hf : fact f m) {S : List O} (h : callD tl.ct (k + 5) F_is_row_of_length [x, .int m] S = .ok (.bl false) S) : callD tl.ct (k + 6) F_proof_for [.str f, x] S = .ex ⟨C_BadRow, [], []⟩ S := by
  rw [run_proof_for]
  simp -dsimp [b_proof_for, e_check_fact hf, h]
theorem e_proof_for_bad {k : Nat} {x y : D} {S : List O} (h : ∀ k, callD tl.ct (k + 2) F_places_of_fact [x] S = .ok .non S) : callD tl.ct (k + 6) F_proof_for [x, y] S = .ex ⟨C_BadFact, [], []⟩ S := by
  rw [run_proof_for]
  simp -dsimp [b_proof_for, e_check_fact_no h]
end LK82
end
section
set_option Elab.async false
set_option linter.all false
set_option maxRecDepth 100000
set_option maxHeartbeats 1000000
set_option autoImplicit false
namespace LK82
open PySem PySem.Spec PyProof.Rows L2 Ev
/-- _law_signs -/
theorem e_signs {k n : Nat} {h : Hd} {mk : List Nat} {T : List O} (hm : 0 < mk.length) (hml : mk.length ≤ 100) (hn : n ≤ 1000) : ∃ cs h', callD tl.ct (k + 2) F_l_signs [.ref 0, .int (n : Nat), .str mk] (hO h :: T) = .ok (.str cs) (hO h' :: T) ∧ cs.length = n ∧ ∀ c ∈ cs, c ∈ mk := by
  rw [run_l_signs]
  simp -dsimp [b_l_signs, rng_0 (n := n) (by omega)]
  generalize hr : gcR _ (lcE _ _ _ _) = r
  obtain ⟨o, ys, rfl, ⟨h', rfl⟩, hyl, hy⟩ := lcE_resP hr (n := 0) (o := hO h) (Q := fun o => ∃ h, o = hO h) (fun i : Nat => D.int (i : Nat)) (fun _ y => ∃ c ∈ mk, y = .str [c]) rfl rfl ⟨h, rfl⟩ (by rintro o ⟨h, rfl⟩; exact hO_cl h _) (by
    rintro i hi o acc ⟨g, rfl⟩
    refine ⟨hO (g.n mk.length), .str [gt mk (g.v mk.length)], ?_, ⟨_, rfl⟩, _, gt_mem (g.v_lt hm), rfl⟩
    simp -dsimp [len_str (cs := mk) (by omega), e_draw g hm (show mk.length < 1073741824 by omega), idx_str (cs := mk) (n := g.v mk.length) (by omega) (g.v_lt hm)]) (by simp; omega) (by rintro x _ y ⟨c, _, rfl⟩; rfl)
  obtain ⟨cs, rfl, hc⟩ : ∃ cs : List Nat, ys = cs.map (fun c => D.str [c]) ∧ ∀ c ∈ cs, c ∈ mk := by
    have hy2 : ∀ y ∈ ys, ∃ c ∈ mk, y = .str [c] := fun y hy' => by
      obtain ⟨i, hi, rfl⟩ := List.mem_iff_getElem.mp hy'
      refine hy ((List.range n)[i]'(by omega), ys[i]) ?_
      rw [List.mem_iff_getElem]
      exact ⟨i, by simp at hyl ⊢; omega, by simp⟩
    clear hyl hy hr
    induction ys with
    | nil => exact ⟨[], rfl, by simp⟩
    | cons y ys ih =>
      obtain ⟨cs, rfl, h1⟩ := ih fun z hz => hy2 z (List.mem_cons_of_mem _ hz)
      obtain ⟨c, hc, rfl⟩ := hy2 y List.mem_cons_self
      exact ⟨c :: cs, rfl, fun d hd => by
        rcases List.mem_cons.mp hd with rfl | hd
        · exact hc
        · exact h1 d hd⟩
  have hlen : cs.length = n := by simpa using hyl
  refine ⟨cs, ⟨h', ?_⟩, hlen, hc⟩
  simp -dsimp [MT.at, isStrD, join_chars (show cs.length ≤ 100000 by omega)]
def Good (w p : Nat) (y : D) : Prop := if w = 0 then ∃ cs, y = .str cs ∧ cs.length = p ∧ marks cs else if w = 3 then ∃ i : Int, 0 ≤ i ∧ y = .int i else ∃ cs, y = .str cs ∧ row cs p
@[simp] theorem pow_30 {S : List O} : powD (.int 10) (.int 30) S = .ok (.int (10 ^ 30)) S := by
  show (if CPow 10 30 then R.ok (D.int (10 ^ (30 : Int).toNat)) S else .bad) = _
  rw [if_pos (by decide)]; rfl
theorem hd_nr {g h : Hd} {T : List O} {y : D} (h2 : nrD y = true) : gcR (hO h :: T) (.ok y (hO g :: T)) = .ok y (hO g :: T) := gcR_h h2
/-- _law_good -/
theorem e_good {k w p : Nat} {h : Hd} {T : List O} (hp : p ≤ 6) : ∃ y h', callD tl.ct (k + 3) F_l_good [.ref 0, .int (w : Nat), .int (p : Nat)] (hO h :: T) = .ok y (hO h' :: T) ∧ Good w p y := by
  rw [run_l_good]
  by_cases h0 : w = 0
  · subst h0
    obtain ⟨cs, h', e, hl, hc⟩ := e_signs (k := k) (n := p) (h := h) (mk := [48, 49, 46]) (T := T) (by decide) (by decide) (by omega)
    refine ⟨.str cs, h', ?_, ?_⟩
    · simp -dsimp [b_l_good, e]
    · unfold Good
      rw [if_pos rfl]
      exact ⟨cs, rfl, hl, fun c hm => by have := hc c hm; simp at this; rcases this with rfl | rfl | rfl <;> rfl⟩
  · have h0i : ¬ (w : Int) = 0 := by omega
    by_cases h3 : w = 3
    · subst h3
      obtain ⟨d, hd, e⟩ := idx_mem (n := h.v 4) [.int 0, .int 1, .int 6, .int 1000000000000000000000000000000] (h.v_lt (by decide))
      have ed := e_drawI (k := k + 1) h 4 (i := 4) rfl (T := T) (by decide) (by decide)
      refine ⟨d, h.n 4, ?_, ?_⟩
      · simp at hd
        rcases hd with rfl | rfl | rfl | rfl <;> simp -dsimp [b_l_good, nat_sz, ed, e]
      · unfold Good
        rw [if_neg (by decide), if_pos rfl]
        simp at hd
        rcases hd with rfl | rfl | rfl | rfl <;> exact ⟨_, by decide, rfl⟩
    · have h3i : ¬ (w : Int) = 3 := by omega
      obtain ⟨cs, h', e, hl, hc⟩ := e_signs (k := k) (n := p) (h := h) (mk := [48, 49]) (T := T) (by decide) (by decide) (by omega)
      refine ⟨.str cs, h', ?_, ?_⟩
      · simp -dsimp [b_l_good, h0, h0i, h3, h3i, e]
      · unfold Good
        rw [if_neg h0, if_neg h3]
        exact ⟨cs, rfl, fun c hm => by have := hc c hm; simp at this; rcases this with rfl | rfl <;> rfl, hl⟩
/-- no fact -/
def BadF (x : D) : Prop := ∀ (k : Nat) (S : List O), callD tl.ct (k + 2) F_places_of_fact [x] S = .ok .non S
theorem bad_no {x : D} (h : noStr x = true) : BadF x := fun k S => e_places_of_fact_no S h
theorem bad_str {cs : List Nat} (hz : cs.length ≤ 10000) (ha : asc cs) (h : rowB cs = false ∨ pl cs.length = .non) : BadF (.str cs) := fun k S => by
  rw [e_places_of_fact cs S hz ha]
  rcases h with h | h
  · rw [h]; rfl
  · rw [h]; split <;> rfl
theorem row_cut {a b : List Nat} {c : Nat} (h : bit c = false) : rowB (a ++ [c] ++ b) = false := by
  unfold rowB
  rw [List.all_append, List.all_append]
  simp [h]
theorem mrk_cut {a b : List Nat} {c : Nat} (h : mark c = false) : mrkB (a ++ [c] ++ b) = false := by
  unfold mrkB
  rw [List.all_append, List.all_append]
  simp [h]
theorem asc_app {a b : List Nat} (h1 : asc a) (h2 : asc b) : asc (a ++ b) := fun c hc => by
  rcases List.mem_append.mp hc with hc | hc
  · exact h1 c hc
  · exact h2 c hc
theorem asc_take {a : List Nat} (h : asc a) (n : Nat) : asc (a.take n) := fun c hc => h c (List.mem_of_mem_take hc)
theorem asc_drop {a : List Nat} (h : asc a) (n : Nat) : asc (a.drop n) := fun c hc => h c (List.mem_of_mem_drop hc)
theorem pl_no {n : Nat} (h : n ≠ 2 ∧ n ≠ 4 ∧ n ≠ 8 ∧ n ≠ 16 ∧ n ≠ 32 ∧ n ≠ 64) : pl n = .non := by
  unfold pl
  obtain ⟨a, b, c, d, e, f⟩ := h
  rw [if_neg a, if_neg b, if_neg c, if_neg d, if_neg e, if_neg f]
theorem fact.pow {f : List Nat} {m : Nat} (hf : fact f m) : f.length = 2 ∨ f.length = 4 ∨ f.length = 8 ∨ f.length = 16 ∨ f.length = 32 ∨ f.length = 64 := by
  obtain ⟨_, h1, h2, h3⟩ := hf
  rw [h1]
  match m, h2, h3 with
  | 1, _, _ => decide
  | 2, _, _ => decide
  | 3, _, _ => decide
  | 4, _, _ => decide
  | 5, _, _ => decide
  | 6, _, _ => decide
theorem mul_64 {S : List O} : mulD (.str [48, 49]) (.int 64) S = .ok (.str (repL 64 [48, 49])) S := by
  show (if (0 : Int) ≤ 64 ∧ (64 : Int) ≤ 1000 ∧ [48, 49].length ≤ 1000 then R.ok (D.str (repL (64 : Int).toNat [48, 49])) S else .bad) = _
  rw [if_pos ⟨by decide, by decide, by decide⟩]; rfl
theorem list_str {cs : List Nat} {S : List O} (h : cs.length ≤ 100000) : listD [.str cs] S = .ok (.lst (cs.map fun c => .str [c])) S := by
  show (if cs.length ≤ sizeLine then _ else _) = _
  rw [if_pos (by rw [szl]; omega)]
theorem tuple_str {cs : List Nat} {S : List O} (h : cs.length ≤ 100000) : tupleD [.str cs] S = .ok (.tup (cs.map fun c => .str [c])) S := by
  show (if cs.length ≤ sizeLine then _ else _) = _
  rw [if_pos (by rw [szl]; omega)]
theorem asc_lit {cs : List Nat} (h : (cs.all fun c => decide (c < 1114112)) = true) : asc cs := fun c hc => of_decide_eq_true (List.all_eq_true.mp h c hc)
/-- _law_odd_fact -/
theorem e_odd_fact {k m : Nat} {f : List Nat} {h : Hd} {T : List O} (hf : fact f m) : ∃ y h', callD tl.ct (k + 2) F_l_odd_fact [.ref 0, .str f] (hO h :: T) = .ok y (hO h' :: T) ∧ BadF y := by
  have hl := hf.len
  have hp := hf.pow
  have hfa := bits_asc hf.1
  have h0 : 0 < f.length := by omega
  have hv := h.v_lt h0
  obtain ⟨d, hd, e⟩ := idx_mem (n := (h.n f.length).v 4) [.str [46], .str [50], .str [32], .str [97]] ((h.n f.length).v_lt (by decide))
  obtain ⟨c, rfl, hc, hca⟩ : ∃ c, d = .str [c] ∧ bit c = false ∧ c < 1114112 := by
    simp at hd
    rcases hd with rfl | rfl | rfl | rfl <;> exact ⟨_, rfl, rfl, by decide⟩
  have hca : asc [c] := fun x hx => by rw [List.mem_singleton.mp hx]; exact hca
  have e1 := e_draw (k := k) h (m := f.length) (T := T) h0 (by omega)
  have e2 := e_drawI (k := k) (h.n f.length) 4 (i := 4) rfl (T := T) (by decide) (by decide)
  have e3 := e_drawI (k := k) ((h.n f.length).n 4) 16 (i := 16) rfl (T := T) (by decide) (by decide)
  have hod : (f.take (h.v f.length) ++ [c] ++ f.drop (h.v f.length + 1)).length = f.length := by simp; omega
  have hoa : asc (f.take (h.v f.length) ++ [c] ++ f.drop (h.v f.length + 1)) := asc_app (asc_app (asc_take hfa _) hca) (asc_drop hfa _)
  obtain ⟨y, hy, e4⟩ := idx_mem (n := ((h.n f.length).n 4).v 16) ([.str [], .str [48], .str (f.take (h.v f.length) ++ [c] ++ f.drop (h.v f.length + 1)), .str (f.take (h.v f.length) ++ [c] ++ f.drop (h.v f.length + 1)), .str (f ++ [48]), .str (f.drop 1 ++ [48, 49]), .str (f ++ f ++ f), .str (repL 64 [48, 49]), .non, .bl true, .int 0, .lst (f.map fun c => .str [c]), .tup [.str f], .dk [] [], .int 10, .tup (f.map fun c => .str [c])]) (((h.n f.length).n 4).v_lt (by decide))
  have hbad : BadF y := by
    simp only [List.mem_cons, List.not_mem_nil, or_false] at hy
    rcases hy with rfl | rfl | rfl | rfl | rfl | rfl | rfl | rfl | rfl | rfl | rfl | rfl | rfl | rfl | rfl | rfl
    · exact bad_str (by decide) (asc_lit rfl) (.inr rfl)
    · exact bad_str (by decide) (asc_lit rfl) (.inr rfl)
    · exact bad_str (by omega) hoa (.inl (row_cut hc))
    · exact bad_str (by omega) hoa (.inl (row_cut hc))
    · exact bad_str (by simp; omega) (asc_app hfa (asc_lit rfl)) (.inr (pl_no (by simp; omega)))
    · exact bad_str (by simp; omega) (asc_app (asc_drop hfa _) (asc_lit rfl)) (.inr (pl_no (by simp; omega)))
    · exact bad_str (by simp; omega) (asc_app (asc_app hfa hfa) hfa) (.inr (pl_no (by simp; omega)))
    · exact bad_str (by decide) (asc_lit (by decide)) (.inr (pl_no (by decide)))
    · exact bad_no rfl
    · exact bad_no rfl
    · exact bad_no rfl
    · exact bad_no rfl
    · exact bad_no rfl
    · exact bad_no rfl
    · exact bad_no rfl
    · exact bad_no rfl
  have hnr : nrD y = true := by
    have hm : nrL (f.map fun c => D.str [c]) = true := nrL_map fun _ => rfl
    simp only [List.mem_cons, List.not_mem_nil, or_false] at hy
    rcases hy with rfl | rfl | rfl | rfl | rfl | rfl | rfl | rfl | rfl | rfl | rfl | rfl | rfl | rfl | rfl | rfl <;> first | rfl | exact hm
  refine ⟨y, ((h.n f.length).n 4).n 16, ?_, hbad⟩
  rw [run_l_odd_fact]
  have hcut1 : ∀ S, sliceD (.str f) (some 1) none S = .ok (.str (f.drop 1)) S := fun S => by
    rw [slc_str (by omega), show (1 : Int) = ((1 : Nat) : Int) from rfl, cut_drop (by omega)]
  have a1 : ∀ S, addD (.str (f.take (h.v f.length))) (.str [c]) S = .ok (.str (f.take (h.v f.length) ++ [c])) S := fun S => add_str (by simp; omega)
  have a2 : ∀ S, addD (.str (f.take (h.v f.length) ++ [c])) (.str (f.drop (h.v f.length + 1))) S = .ok (.str (f.take (h.v f.length) ++ [c] ++ f.drop (h.v f.length + 1))) S := fun S => add_str (by simp; omega)
  have a3 : ∀ S, addD (.str f) (.str [48]) S = .ok (.str (f ++ [48])) S := fun S => add_str (by simp; omega)
  have a4 : ∀ S, addD (.str (f.drop 1)) (.str [48, 49]) S = .ok (.str (f.drop 1 ++ [48, 49])) S := fun S => add_str (by simp; omega)
  have a5 : ∀ S, addD (.str f) (.str f) S = .ok (.str (f ++ f)) S := fun S => add_str (by omega)
  have a6 : ∀ S, addD (.str (f ++ f)) (.str f) S = .ok (.str (f ++ f ++ f)) S := fun S => add_str (by simp; omega)
  have a7 : ∀ (a b : List D) S, a.length + b.length ≤ 100000 → addD (.lst a) (.lst b) S = .ok (.lst (a ++ b)) S := fun a b S h => add_lst h
  have a8 : ∀ S, sliceD (.str f) (some ((h.v f.length : Nat) + 1)) none S = .ok (.str (f.drop (h.v f.length + 1))) S := fun S => by rw [slc_str (by omega), cut_drop1 (by omega)]
  have a9 : ∀ S, sliceD (.str f) none (some (h.v f.length : Nat)) S = .ok (.str (f.take (h.v f.length))) S := fun S => by rw [slc_str (by omega), cut_take (by omega)]
  simp -dsimp [-List.append_assoc, -List.drop_one, b_l_odd_fact, len_str (cs := f) (by omega), e1, e2, e3, e, e4, a1, a2, a3, a4, a5, a6, a7, a8, a9, hcut1, nat_sz, mul_64, list_str (cs := f) (by omega), tuple_str (cs := f) (by omega), hnr]
/-- what is no second argument -/
def Odd (w p : Nat) (y : D) : Prop := nrD y = true ∧ (if w = 3 then depthB y = false ∧ plD y = true ∧ okD y = true ∧ (pyD y).depth ≤ 3 else noStr y = true ∨ ∃ cs, y = .str cs ∧ asc cs ∧ cs.length ≤ 10000 ∧ (cs.length ≠ p ∨ (w = 0 ∧ mrkB cs = false) ∨ (w ≠ 0 ∧ rowB cs = false)))
theorem e_odd {k w p : Nat} {h : Hd} {T : List O} (hp1 : 1 ≤ p) (hp : p ≤ 6) : ∃ y h', callD tl.ct (k + 3) F_l_odd [.ref 0, .int (w : Nat), .int (p : Nat)] (hO h :: T) = .ok y (hO h' :: T) ∧ Odd w p y := by
  by_cases h3 : w = 3
  · subst h3
    obtain ⟨y, hy, e⟩ := idx_mem (n := h.v 8) [.int (-1), .bl true, .bl false, .non, .str [49], .tup [.int 1], .lst [], .int (-1000000000000000000000000000000)] (h.v_lt (by decide))
    have ed := e_drawI (k := k + 1) h 8 (i := 8) rfl (T := T) (by decide) (by decide)
    have hodd : Odd 3 p y := by
      unfold Odd
      rw [if_pos rfl]
      simp only [List.mem_cons, List.not_mem_nil, or_false] at hy
      rcases hy with rfl | rfl | rfl | rfl | rfl | rfl | rfl | rfl <;> exact ⟨rfl, by decide, rfl, rfl, by decide⟩
    refine ⟨y, h.n 8, ?_, hodd⟩
    rw [run_l_odd]
    simp -dsimp [b_l_odd, nat_sz, ed, e, hodd.1]
  · have h3i : ¬ (w : Int) = 3 := by omega
    obtain ⟨cs, g, e1, hl, hc⟩ := e_signs (k := k) (n := p) (h := h) (mk := [48, 49]) (T := T) (by decide) (by decide) (by omega)
    have hca : asc cs := fun c hm => by have := hc c hm; simp at this; rcases this with rfl | rfl <;> decide
    have e2 := e_draw (k := k + 1) g (m := p) (T := T) (by omega) (by omega)
    have hv := g.v_lt (m := p) (by omega)
    have e3 := e_drawI (k := k + 1) (g.n p) 4 (i := 4) rfl (T := T) (by decide) (by decide)
    have e4 := e_drawI (k := k + 1) ((g.n p).n 4) 12 (i := 12) rfl (T := T) (by decide) (by decide)
    have a7 : ∀ S, sliceD (.str cs) (some 1) none S = .ok (.str (cs.drop 1)) S := fun S => by
      rw [slc_str (by omega), show (1 : Int) = ((1 : Nat) : Int) from rfl, cut_drop (by omega)]
    have a8 : ∀ S, sliceD (.str cs) (some ((g.v p : Nat) + 1)) none S = .ok (.str (cs.drop (g.v p + 1))) S := fun S => by rw [slc_str (by omega), cut_drop1 (by omega)]
    have a9 : ∀ S, sliceD (.str cs) none (some (g.v p : Nat)) S = .ok (.str (cs.take (g.v p))) S := fun S => by rw [slc_str (by omega), cut_take (by omega)]
    have a3 : ∀ S, addD (.str cs) (.str [48]) S = .ok (.str (cs ++ [48])) S := fun S => add_str (by simp; omega)
    have main : ∀ (mk : List D) c, (∀ S, idxD (.lst mk) (.int ((g.n p).v 4 : Nat)) S = .ok (.str [c]) S) → c < 1114112 → (w = 0 ∧ mark c = false ∨ w ≠ 0 ∧ bit c = false) →
        ∃ y, (∀ S, idxD (.lst [.str (cs.take (g.v p) ++ [c] ++ cs.drop (g.v p + 1)), .str (cs.take (g.v p) ++ [c] ++ cs.drop (g.v p + 1)), .str (cs.take (g.v p) ++ [c] ++ cs.drop (g.v p + 1)), .str (cs ++ [48]), .str (cs.drop 1), .str [], .non, .int 0, .bl true, .lst (cs.map fun c => .str [c]), .tup [.str cs], .dk [] []]) (.int (((g.n p).n 4).v 12 : Nat)) S = .ok y S) ∧ Odd w p y := by
      intro mk c e5 hc2 hcm
      have hoa : asc (cs.take (g.v p) ++ [c] ++ cs.drop (g.v p + 1)) := asc_app (asc_app (asc_take hca _) fun x hx => by rw [List.mem_singleton.mp hx]; exact hc2) (asc_drop hca _)
      obtain ⟨y, hy, e6⟩ := idx_mem (n := ((g.n p).n 4).v 12) [.str (cs.take (g.v p) ++ [c] ++ cs.drop (g.v p + 1)), .str (cs.take (g.v p) ++ [c] ++ cs.drop (g.v p + 1)), .str (cs.take (g.v p) ++ [c] ++ cs.drop (g.v p + 1)), .str (cs ++ [48]), .str (cs.drop 1), .str [], .non, .int 0, .bl true, .lst (cs.map fun c => .str [c]), .tup [.str cs], .dk [] []] (((g.n p).n 4).v_lt (by decide))
      refine ⟨y, e6, ?_⟩
      have hod : Odd w p (.str (cs.take (g.v p) ++ [c] ++ cs.drop (g.v p + 1))) := by
        unfold Odd
        rw [if_neg h3]
        refine ⟨rfl, .inr ⟨_, rfl, hoa, by simp; omega, .inr ?_⟩⟩
        rcases hcm with ⟨h0, h1⟩ | ⟨h0, h1⟩
        · exact .inl ⟨h0, mrk_cut h1⟩
        · exact .inr ⟨h0, row_cut h1⟩
      simp only [List.mem_cons, List.not_mem_nil, or_false] at hy
      rcases hy with rfl | rfl | rfl | rfl | rfl | rfl | rfl | rfl | rfl | rfl | rfl | rfl
      · exact hod
      · exact hod
      · exact hod
      all_goals (unfold Odd; rw [if_neg h3])
      · exact ⟨rfl, .inr ⟨_, rfl, asc_app hca (asc_lit rfl), by simp; omega, .inl (by simp; omega)⟩⟩
      · exact ⟨rfl, .inr ⟨_, rfl, asc_drop hca _, by simp; omega, .inl (by simp; omega)⟩⟩
      · exact ⟨rfl, .inr ⟨_, rfl, asc_lit rfl, by decide, .inl (by simp; omega)⟩⟩
      · exact ⟨rfl, .inl rfl⟩
      · exact ⟨rfl, .inl rfl⟩
      · exact ⟨rfl, .inl rfl⟩
      · exact ⟨nrL_map fun _ => rfl, .inl rfl⟩
      · exact ⟨rfl, .inl rfl⟩
      · exact ⟨rfl, .inl rfl⟩
    have a1 : ∀ c S, addD (.str (cs.take (g.v p))) (.str [c]) S = .ok (.str (cs.take (g.v p) ++ [c])) S := fun c S => add_str (by simp; omega)
    have a2 : ∀ c S, addD (.str (cs.take (g.v p) ++ [c])) (.str (cs.drop (g.v p + 1))) S = .ok (.str (cs.take (g.v p) ++ [c] ++ cs.drop (g.v p + 1))) S := fun c S => add_str (by simp; omega)
    by_cases h0 : w = 0
    · obtain ⟨d, hd, e5⟩ := idx_mem (n := (g.n p).v 4) [.str [50], .str [32], .str [45], .str [120]] ((g.n p).v_lt (by decide))
      obtain ⟨c, rfl, hcb, hc2⟩ : ∃ c, d = .str [c] ∧ mark c = false ∧ c < 1114112 := by
        simp at hd
        rcases hd with rfl | rfl | rfl | rfl <;> exact ⟨_, rfl, rfl, by decide⟩
      obtain ⟨y, e6, hodd⟩ := main _ c e5 hc2 (.inl ⟨h0, hcb⟩)
      have h0i : ¬ (0 : Int) < (w : Int) := by omega
      refine ⟨y, ((g.n p).n 4).n 12, ?_, hodd⟩
      rw [run_l_odd]
      subst h0
      simp -dsimp [-List.append_assoc, -List.drop_one, b_l_odd, nat_sz, e1, e2, e3, e4, e5, e6, a1, a2, a3, a7, a8, a9, list_str (cs := cs) (by omega), hodd.1]
    · obtain ⟨d, hd, e5⟩ := idx_mem (n := (g.n p).v 4) [.str [50], .str [46], .str [45], .str [120]] ((g.n p).v_lt (by decide))
      obtain ⟨c, rfl, hcb, hc2⟩ : ∃ c, d = .str [c] ∧ bit c = false ∧ c < 1114112 := by
        simp at hd
        rcases hd with rfl | rfl | rfl | rfl <;> exact ⟨_, rfl, rfl, by decide⟩
      obtain ⟨y, e6, hodd⟩ := main _ c e5 hc2 (.inr ⟨h0, hcb⟩)
      have h0i : (0 : Int) < (w : Int) := by omega
      have h0n : 0 < w := by omega
      refine ⟨y, ((g.n p).n 4).n 12, ?_, hodd⟩
      rw [run_l_odd]
      simp -dsimp [-List.append_assoc, -List.drop_one, b_l_odd, h3, h3i, h0i, h0n, nat_sz, e1, e2, e3, e4, e5, e6, a1, a2, a3, a7, a8, a9, list_str (cs := cs) (by omega), hodd.1]
section
variable {a b c d : D} {S : List O}
theorem idx_l40 : idxD (.lst [a, b, c, d]) (.int 0) S = .ok a S := rfl
theorem idx_l41 : idxD (.lst [a, b, c, d]) (.int 1) S = .ok b S := rfl
theorem idx_l42 : idxD (.lst [a, b, c, d]) (.int 2) S = .ok c S := rfl
theorem idx_l43 : idxD (.lst [a, b, c, d]) (.int 3) S = .ok d S := rfl
end
end LK82
end
section
set_option Elab.async false
set_option linter.all false
set_option maxRecDepth 100000
set_option maxHeartbeats 1000000
set_option autoImplicit false
namespace LK82
open PySem PySem.Spec PyProof.Rows L2 Ev
theorem e_sum_fact_bad {k : Nat} {x : D} {S : List O} (h : BadF x) : callD tl.ct (k + 4) F_sum_fact [x] S = .ex ⟨C_BadFact, [], []⟩ S := by
  rw [run_sum_fact]
  simp -dsimp [b_sum_fact, e_check_fact_no fun k => h k _]
theorem e_unlike_looks_bad {k : Nat} {x : D} {S : List O} (h : BadF x) : callD tl.ct (k + 4) F_unlike_looks [x] S = .ex ⟨C_BadFact, [], []⟩ S := by
  rw [run_unlike_looks]
  simp -dsimp [b_unlike_looks, e_check_fact_no fun k => h k _]
/-- all is right -/
theorem call_let {k w m : Nat} {f : List Nat} {y : D} (hf : fact f m) (hw : w < 7) (hy : Good w m y) (S : List O) : callD tl.ct (k + 27) F_l_call [.int (w : Nat), .str f, y] S = .ok .non S := by
  have hm := hf.2.2.2
  rw [run_l_call]
  unfold Good at hy
  match w, hw with
  | 0, _ =>
    rw [if_pos rfl] at hy
    obtain ⟨cs, rfl, hl, hc⟩ := hy
    have hb : mrkB cs = true := List.all_eq_true.mpr hc
    simp -dsimp [b_l_call, e_hanging hf (show cs.length ≤ 10000 by omega) (marks_asc hc), hl, hb]
  | 1, _ =>
    rw [if_neg (by decide), if_neg (by decide)] at hy
    obtain ⟨cs, rfl, hc, hl⟩ := hy
    have hb : rowB cs = true := bits_all hc
    simp -dsimp [b_l_call, e_looks hf (show cs.length ≤ 10000 by omega) (bits_asc hc), hl, hb]
  | 2, _ =>
    rw [if_neg (by decide), if_neg (by decide)] at hy
    obtain ⟨cs, rfl, hc⟩ := hy
    obtain ⟨ps, hps⟩ := pr_some (f := f) hc
    simp -dsimp [b_l_call, e_proof_for hf hc hps]
  | 3, _ =>
    rw [if_neg (by decide), if_pos rfl] at hy
    obtain ⟨i, hi, rfl⟩ := hy
    simp -dsimp [b_l_call, e_is_look_tree hf hi (show plD (.tup []) = true from rfl), nat_sz]
  | 4, _ => simp -dsimp [b_l_call, e_sum_fact hf]
  | 5, _ =>
    obtain ⟨q, rs, _, e⟩ := e_unlike_looks (k := k + 10) hf S
    simp -dsimp [b_l_call, e]
  | 6, _ => simp -dsimp [b_l_call, e_fewest_looks hf]
/-- no fact -/
theorem call_fact {k w : Nat} {x y : D} (hw : w < 7) (hx : BadF x) (S : List O) : callD tl.ct (k + 27) F_l_call [.int (w : Nat), x, y] S = .ex ⟨C_BadFact, [], []⟩ S := by
  rw [run_l_call]
  match w, hw with
  | 0, _ => simp -dsimp [b_l_call, e_hanging_bad fun k => hx k _]
  | 1, _ => simp -dsimp [b_l_call, e_looks_bad fun k => hx k _]
  | 2, _ => simp -dsimp [b_l_call, e_proof_for_bad fun k => hx k _]
  | 3, _ => simp -dsimp [b_l_call, e_is_look_tree_fact fun k => hx k _, nat_sz]
  | 4, _ => simp -dsimp [b_l_call, e_sum_fact_bad hx]
  | 5, _ => simp -dsimp [b_l_call, e_unlike_looks_bad hx]
  | 6, _ => simp -dsimp [b_l_call, e_fewest_looks_bad fun k => hx k _]
/-- the second argument is none -/
theorem call_st {k m : Nat} {f : List Nat} {y : D} (hf : fact f m) (hy : Odd 0 m y) (S : List O) : callD tl.ct (k + 27) F_l_call [.int 0, .str f, y] S = .ex ⟨C_BadStanding, [], []⟩ S := by
  unfold Odd at hy
  rw [if_neg (by decide)] at hy
  rw [run_l_call]
  rcases hy.2 with h | ⟨cs, rfl, ha, hz, h⟩
  · simp -dsimp [b_l_call, e_hanging_no hf h]
  · have : ¬ (cs.length = m ∧ mrkB cs = true) := fun ⟨a, b⟩ => by
      rcases h with h | ⟨_, h⟩ | ⟨h, _⟩
      · exact h a
      · rw [h] at b; cases b
      · exact h rfl
    have e := e_hanging (k := k + 22) hf hz ha S
    rw [if_neg this] at e
    simp -dsimp [b_l_call, e]
theorem call_rw {k m : Nat} {f : List Nat} {y : D} (hf : fact f m) (hy : Odd 1 m y) (S : List O) : callD tl.ct (k + 27) F_l_call [.int 1, .str f, y] S = .ex ⟨C_BadRow, [], []⟩ S := by
  unfold Odd at hy
  rw [if_neg (by decide)] at hy
  rw [run_l_call]
  rcases hy.2 with h | ⟨cs, rfl, ha, hz, h⟩
  · simp -dsimp [b_l_call, e_looks_no hf h]
  · have : ¬ (cs.length = m ∧ rowB cs = true) := fun ⟨a, b⟩ => by
      rcases h with h | ⟨h, _⟩ | ⟨_, h⟩
      · exact h a
      · exact absurd h (by decide)
      · rw [h] at b; cases b
    have e := e_looks (k := k + 10) hf hz ha S
    rw [if_neg this] at e
    simp -dsimp [b_l_call, e]
theorem call_pr {k m : Nat} {f : List Nat} {y : D} (hf : fact f m) (hy : Odd 2 m y) (S : List O) : callD tl.ct (k + 27) F_l_call [.int 2, .str f, y] S = .ex ⟨C_BadRow, [], []⟩ S := by
  unfold Odd at hy
  rw [if_neg (by decide)] at hy
  rw [run_l_call]
  rcases hy.2 with h | ⟨cs, rfl, ha, hz, h⟩
  · have e := e_proof_for_row (k := k + 20) hf (e_is_row_of_length_no (k := k + 23) (m := .int m) S h)
    simp -dsimp [b_l_call, e]
  · have : (rowB cs && (cs.length : Int) == m) = false := by
      rcases h with h | ⟨h, _⟩ | ⟨_, h⟩
      · have : ((cs.length : Int) == m) = false := by simp; omega
        rw [this, Bool.and_false]
      · exact absurd h (by decide)
      · rw [h, Bool.false_and]
    have e := e_is_row_of_length (k := k + 23) cs m S hz ha
    rw [this] at e
    have e := e_proof_for_row (k := k + 20) hf e
    simp -dsimp [b_l_call, e]
theorem call_dp {k m : Nat} {f : List Nat} {y : D} (hf : fact f m) (hy : Odd 3 m y) (S : List O) : callD tl.ct (k + 27) F_l_call [.int 3, .str f, y] S = .ex ⟨C_BadDepth, [A_depth], [y]⟩ S := by
  unfold Odd at hy
  rw [if_pos rfl] at hy
  obtain ⟨h1, h2, h3, h4, h5⟩ := hy
  rw [run_l_call]
  simp -dsimp [b_l_call, e_is_look_tree_depth hf h3 h2 h1, nat_sz]
  exact gcR_ex1 (nr_cl _ h1)
def wLet : D := .tup [.str [108, 101, 116], .non]
def wFact : D := .tup [.str [102, 97, 99, 116], .non]
def wStanding : D := .tup [.str [115, 116, 97, 110, 100, 105, 110, 103], .non]
def wRow : D := .tup [.str [114, 111, 119], .non]
def wDepth (y : D) : D := .tup [.str [100, 101, 112, 116, 104], y]
section
variable {k : Nat} {w x y : D} {S : List O}
theorem word_let {d : D} (h : callD tl.ct k F_l_call [w, x, y] S = .ok d S) : callD tl.ct (k + 1) F_l_word [w, x, y] S = .ok wLet S := by
  rw [run_l_word]
  simp -dsimp [b_l_word, h, nat_sz, wLet, gcR_nr]
theorem m_cnt (a b c : Bool) : methD .lcount (.lst [.bl a, .bl b, .bl c]) [.bl true] S = .ok (.int (([a, b, c].countP fun z => z == true : Nat))) S := by
  show R.ok (D.int (([D.bl a, .bl b, .bl c].countP fun z => eqF z (.bl true) : Nat))) S = _
  rfl
theorem m_at1 {ds : List D} : MT.at .lcount S (.lst ds) = true := rfl
theorem m_at2 {ds : List D} : MT.at .lindex S (.lst ds) = true := rfl
theorem m_i0 {b c : Bool} : methD .lindex (.lst [.bl true, .bl b, .bl c]) [.bl true] S = .ok (.int 0) S := rfl
theorem m_i1 {c : Bool} : methD .lindex (.lst [.bl false, .bl true, .bl c]) [.bl true] S = .ok (.int 1) S := rfl
theorem m_i2 : methD .lindex (.lst [.bl false, .bl false, .bl true]) [.bl true] S = .ok (.int 2) S := rfl
@[simp] theorem idx_l30 {a b c : D} : idxD (.lst [a, b, c]) (.int 0) S = .ok a S := rfl
@[simp] theorem idx_l31 {a b c : D} : idxD (.lst [a, b, c]) (.int 1) S = .ok b S := rfl
@[simp] theorem idx_l32 {a b c : D} : idxD (.lst [a, b, c]) (.int 2) S = .ok c S := rfl
theorem word_fact (h : callD tl.ct k F_l_call [w, x, y] S = .ex ⟨C_BadFact, [], []⟩ S) : callD tl.ct (k + 1) F_l_word [w, x, y] S = .ok wFact S := by
  rw [run_l_word]
  simp -dsimp [b_l_word, h, nat_sz, wFact, gcR_nr, m_at1, m_at2, m_cnt, m_i0, m_i1, m_i2]
theorem word_st (h : callD tl.ct k F_l_call [w, x, y] S = .ex ⟨C_BadStanding, [], []⟩ S) : callD tl.ct (k + 1) F_l_word [w, x, y] S = .ok wStanding S := by
  rw [run_l_word]
  simp -dsimp [b_l_word, h, nat_sz, wStanding, gcR_nr, m_at1, m_at2, m_cnt, m_i0, m_i1, m_i2]
theorem word_row (h : callD tl.ct k F_l_call [w, x, y] S = .ex ⟨C_BadRow, [], []⟩ S) : callD tl.ct (k + 1) F_l_word [w, x, y] S = .ok wRow S := by
  rw [run_l_word]
  simp -dsimp [b_l_word, h, nat_sz, wRow, gcR_nr, m_at1, m_at2, m_cnt, m_i0, m_i1, m_i2]
theorem word_dp {z : D} (hz : nrD z = true) (h : callD tl.ct k F_l_call [w, x, y] S = .ex ⟨C_BadDepth, [A_depth], [z]⟩ S) : callD tl.ct (k + 1) F_l_word [w, x, y] S = .ok (wDepth z) S := by
  rw [run_l_word]
  simp -dsimp [b_l_word, h, nat_sz, wDepth, gcR_nr, lookF, hz]
end
/-- != of words -/
theorem sh_w {a : List Nat} {y : D} (ha : asc a) (h : okD y = true) (hd : (pyD y).depth ≤ 3) : shD (.tup [.str a, y]) = true := by
  show ((okD (.str a) && (okD y && true)) && decide ((PyData.tuple [.str (mkS a), pyD y]).depth ≤ 60)) = true
  rw [ok_str ha, h]
  simp [PyData.depth, PyData.depthAll]
  omega
theorem ne_w {a b : List Nat} {x y : D} {S : List O} (ha : asc a) (hb : asc b) (h : okD x = true) (hd : (pyD x).depth ≤ 3) (h2 : okD y = true) (hd2 : (pyD y).depth ≤ 3) : eqDS true (.tup [.str a, x]) (.tup [.str b, y]) S = .ok (.bl (!((a == b) && eqD x y))) S := by
  show (if [D.str a, x] = [] ∨ [D.str b, y] = [] then R.ok (D.bl (true != ([D.str a, x].length == [D.str b, y].length))) S else if (shD (.tup [.str a, x]) && shD (.tup [.str b, y])) = true then .ok (.bl (true != eqD (.tup [.str a, x]) (.tup [.str b, y]))) S else .bad) = _
  rw [sh_w ha h hd, sh_w hb h2 hd2]
  simp
theorem ne_ww {S : List O} {x : D} (h : x = wLet ∨ x = wFact ∨ x = wStanding ∨ x = wRow) : eqDS true x x S = .ok (.bl false) S := by
  rcases h with rfl | rfl | rfl | rfl <;> (refine (ne_w (asc_lit rfl) (asc_lit rfl) rfl (by decide) rfl (by decide)).trans ?_; rfl)
theorem ne_dp {S : List O} {y : D} (h : okD y = true) (hd : (pyD y).depth ≤ 3) : eqDS true (wDepth y) (wDepth y) S = .ok (.bl false) S := by
  refine (ne_w (asc_lit rfl) (asc_lit rfl) h hd h hd).trans ?_
  rw [eq_self y h]; rfl
def lB : Ss := b_law.tl.hd.body
/-- the store and the names between turns -/
def lJ (xs : D) (_ : List Nat) (ρ : Env') (S : List O) : Prop := ∃ h a b c d e f g i, ρ = [some xs, some (.ref 0), a, b, c, d, e, f, g, i] ∧ S = [hO h]
/-- a turn's rest -/
theorem l_rest {k P w : Nat} {H : Hd} {xs : D} {a e f g i j : Option D} (hP1 : 1 ≤ P) (hP : P ≤ 6) (hw : w < 7) (z : List Nat) :
    Nx (lJ xs z) (evSs tl.ct (callD tl.ct (k + 28)) lB.tl.tl.tl none [some xs, some (.ref 0), a, some (.int (P : Nat)), some (.int (w : Nat)), e, f, g, i, j] [hO H]) := by
  obtain ⟨N, hN⟩ : ∃ N, N = 2 ^ P := ⟨_, rfl⟩
  obtain ⟨fs, h1, e1, hl1, hc1⟩ := e_signs (k := k + 26) (n := N) (h := H) (mk := [48, 49]) (T := []) (by decide) (by decide) (by have := Nat.pow_le_pow_right (n := 2) (by decide) hP; omega)
  have hf : fact fs P := ⟨fun c hm => by have := hc1 c hm; simp at this; rcases this with rfl | rfl <;> rfl, hl1.trans hN, hP1, hP⟩
  obtain ⟨y, h2, e2, hg⟩ := e_good (k := k + 25) (w := w) (p := P) (h := h1) (T := []) hP
  obtain ⟨o, h3, e3, ho⟩ := e_odd (k := k + 25) (w := w) (p := P) (h := h2) (T := []) hP1 hP
  obtain ⟨q, h4, e4, hq⟩ := e_odd_fact (k := k + 26) (m := P) (f := fs) (h := h3) (T := []) hf
  have hsz : ∀ S, idxD (.lst [.int 2, .int 4, .int 8, .int 16, .int 32, .int 64]) (.int ((P : Nat) - 1)) S = .ok (.int (N : Nat)) S := fun S => by
    subst hN
    match P, hP1, hP with
    | 1, _, _ => rfl
    | 2, _, _ => rfl
    | 3, _, _ => rfl
    | 4, _, _ => rfl
    | 5, _, _ => rfl
    | 6, _, _ => rfl
  have w1 := word_let (call_let (k := k) hf hw hg [hO h4])
  have w2 := word_fact (call_fact (k := k) (x := q) (y := y) hw hq [hO h4])
  have w3 := word_fact (call_fact (k := k) (x := q) (y := o) hw hq [hO h4])
  have n1 : ∀ S, eqDS true wLet (.tup [.str [108, 101, 116], .non]) S = .ok (.bl false) S := fun S => ne_ww (.inl rfl)
  have n2 : ∀ S, eqDS true wFact (.tup [.str [102, 97, 99, 116], .non]) S = .ok (.bl false) S := fun S => ne_ww (.inr (.inl rfl))
  have fin1 : ∀ (a b c d e f g i : Option D) h, Nx (lJ xs z) (.nx [some xs, some (.ref 0), a, b, c, d, e, f, g, i] [hO h]) := fun a b c d e f g i h => ⟨_, _, rfl, h, a, b, c, d, e, f, g, i, rfl, rfl⟩
  have hodd := ho
  unfold Odd at hodd
  by_cases h4w : w < 4
  · match w, h4w with
    | 0, _ =>
      have w4 := word_st (call_st (k := k) hf ho [hO h4])
      have n3 : ∀ S, eqDS true wStanding (.tup [.str [115, 116, 97, 110, 100, 105, 110, 103], .non]) S = .ok (.bl false) S := fun S => ne_ww (.inr (.inr (.inl rfl)))
      simp -dsimp at e2 e3 w1 w2 w3
      simp -dsimp [lB, S.body, Ss.tl, Ss.hd, b_law, hsz, e1, e2, e3, e4, w1, w2, w3, w4, n1, n2, n3, nat_sz, idx_l40]
      exact fin1 _ _ _ _ _ _ _ _ _
    | 1, _ =>
      have w4 := word_row (call_rw (k := k) hf ho [hO h4])
      have n3 : ∀ S, eqDS true wRow (.tup [.str [114, 111, 119], .non]) S = .ok (.bl false) S := fun S => ne_ww (.inr (.inr (.inr rfl)))
      simp -dsimp at e2 e3 w1 w2 w3
      simp -dsimp [lB, S.body, Ss.tl, Ss.hd, b_law, hsz, e1, e2, e3, e4, w1, w2, w3, w4, n1, n2, n3, nat_sz, idx_l41]
      exact fin1 _ _ _ _ _ _ _ _ _
    | 2, _ =>
      have w4 := word_row (call_pr (k := k) hf ho [hO h4])
      have n3 : ∀ S, eqDS true wRow (.tup [.str [114, 111, 119], .non]) S = .ok (.bl false) S := fun S => ne_ww (.inr (.inr (.inr rfl)))
      simp -dsimp at e2 e3 w1 w2 w3
      simp -dsimp [lB, S.body, Ss.tl, Ss.hd, b_law, hsz, e1, e2, e3, e4, w1, w2, w3, w4, n1, n2, n3, nat_sz, idx_l42]
      exact fin1 _ _ _ _ _ _ _ _ _
    | 3, _ =>
      rw [if_pos rfl] at hodd
      obtain ⟨o1, o2, o3, o4, o5⟩ := hodd
      have w4 := word_dp o1 (call_dp (k := k) hf ho [hO h4])
      have n3 : ∀ S, eqDS true (wDepth o) (.tup [.str [100, 101, 112, 116, 104], o]) S = .ok (.bl false) S := fun S => ne_dp o4 o5
      simp -dsimp at e2 e3 w1 w2 w3
      simp -dsimp [lB, S.body, Ss.tl, Ss.hd, b_law, hsz, e1, e2, e3, e4, w1, w2, w3, w4, n1, n2, n3, nat_sz, idx_l43]
      exact fin1 _ _ _ _ _ _ _ _ _
  · have h4i : ¬ (w : Int) < 4 := by omega
    simp -dsimp [lB, S.body, Ss.tl, Ss.hd, b_law, hsz, e1, e2, e3, e4, w1, w2, w3, n1, n2, nat_sz, h4w, h4i]
    exact fin1 _ _ _ _ _ _ _ _ _
theorem law_true (ns : List Int) (hl : ns.length ≤ 63) (hb : ∀ z ∈ ns, Builtin.Int.intBits z ≤ 1048576) : ∃ S, callD tl.ct (60 + 1) F_law [.fl (ns.map D.int)] [] = .ok (.bl true) S := by
  refine ⟨[], ?_⟩
  rw [run_law]
  have e0 := e_hand (k := 59) hl
  have rng6 : ∀ S, rngS (.int 0) (.int 6) S = .ok ⟨(List.range 6).map fun i => D.int (i : Nat), []⟩ S := fun S => rng_0 (n := 6) (by decide)
  have hcut : evSs tl.ct (callD tl.ct 60) b_law none [some (.fl (ns.map D.int)), none, none, none, none, none, none, none, none, none] [] = (evSs tl.ct (callD tl.ct 60) b_law.tl none [some (.fl (ns.map D.int)), some (.ref 0), none, none, none, none, none, none, none, none] [hO ⟨ns.map fun i => if i < 0 then -i else i, 0, 0, 1 + (ns.length : Nat), 0⟩]) := by
    rw [cut]
    simp -dsimp only [Ss.hd, b_law, v_asg, w_call, ws_1, w_var, R.bind_ok, hid_ap, List.getElem?_cons_zero, e0, fl_ok, asT, List.set, fb_nx]
  rw [hcut, cut]
  have hfor : evS tl.ct (callD tl.ct 60) b_law.tl.hd none [some (.fl (ns.map D.int)), some (.ref 0), none, none, none, none, none, none, none, none] [hO ⟨ns.map fun i => if i < 0 then -i else i, 0, 0, 1 + (ns.length : Nat), 0⟩] = frGo [] (.nm 2) (fun ρ S => evSs tl.ct (callD tl.ct 60) lB none ρ S) ((List.range 6).map fun i => D.int (i : Nat)) [some (.fl (ns.map D.int)), some (.ref 0), none, none, none, none, none, none, none, none] [hO ⟨ns.map fun i => if i < 0 then -i else i, 0, 0, 1 + (ns.length : Nat), 0⟩] := by
    simp -dsimp only [Ss.hd, Ss.tl, b_law, v_fr, wi_rng, w_int, R.bind_ok, hid_ap, rng6, fl_ok]
    rfl
  rw [hfor]
  refine fr_NK (P := fun g => gcR [] (fin g) = R.ok (.bl true) []) (fun i : Nat => D.int (i : Nat)) (lJ (.fl (ns.map D.int))) (fun z p => z ++ [p]) (z := []) ⟨_, _, _, _, _, _, _, _, _, rfl, rfl⟩ ?_ ?_
  · rintro ys i zs he ρ S ⟨h, a, b, c, d, e, f, g, j, rfl, rfl⟩
    refine ⟨_, rfl, ?_⟩
    have e1 := e_drawI (k := 59) h 4 (i := 4) rfl (T := []) (by decide) (by decide)
    have e2 := e_drawI (k := 59) (h.n 4) 7 (i := 7) rfl (T := []) (by decide) (by decide)
    have e3 := e_drawI (k := 59) ((h.n 4).n 7) 8 (i := 8) rfl (T := []) (by decide) (by decide)
    have e4 := e_drawI (k := 59) (((h.n 4).n 7).n 8) 2 (i := 2) rfl (T := []) (by decide) (by decide)
    have v1 := h.v_lt (m := 4) (by decide)
    have v2 := (h.n 4).v_lt (m := 7) (by decide)
    have v4 := (((h.n 4).n 7).n 8).v_lt (m := 2) (by decide)
    have s1 : ∀ p q : Option D, evS tl.ct (callD tl.ct 60) lB.hd none [some (.fl (ns.map D.int)), some (.ref 0), some (.int (i : Nat)), p, q, d, e, f, g, j] [hO h] = .nx [some (.fl (ns.map D.int)), some (.ref 0), some (.int (i : Nat)), some (.int (1 + h.v 4 : Nat)), q, d, e, f, g, j] [hO (h.n 4)] := fun p q => by
      simp -dsimp [lB, S.body, Ss.tl, Ss.hd, b_law, e1]
    have s2 : ∀ p q : Option D, evS tl.ct (callD tl.ct 60) lB.tl.hd none [some (.fl (ns.map D.int)), some (.ref 0), some (.int (i : Nat)), p, q, d, e, f, g, j] [hO (h.n 4)] = .nx [some (.fl (ns.map D.int)), some (.ref 0), some (.int (i : Nat)), p, some (.int ((h.n 4).v 7 : Nat)), d, e, f, g, j] [hO ((h.n 4).n 7)] := fun p q => by
      simp -dsimp [lB, S.body, Ss.tl, Ss.hd, b_law, e2]
    have s3 : ∃ P H, 1 ≤ P ∧ P ≤ 6 ∧ evS tl.ct (callD tl.ct 60) lB.tl.tl.hd none [some (.fl (ns.map D.int)), some (.ref 0), some (.int (i : Nat)), some (.int (1 + h.v 4 : Nat)), some (.int ((h.n 4).v 7 : Nat)), d, e, f, g, j] [hO ((h.n 4).n 7)] = .nx [some (.fl (ns.map D.int)), some (.ref 0), some (.int (i : Nat)), some (.int (P : Nat)), some (.int ((h.n 4).v 7 : Nat)), d, e, f, g, j] [hO H] := by
      by_cases h5 : (h.n 4).v 7 = 5
      · refine ⟨1 + h.v 4, (h.n 4).n 7, by omega, by omega, ?_⟩
        simp -dsimp [lB, S.body, Ss.tl, Ss.hd, b_law, h5]
      · have h5i : ¬ ((h.n 4).v 7 : Int) = 5 := by omega
        by_cases h8 : ((h.n 4).n 7).v 8 = 0
        · refine ⟨5 + (((h.n 4).n 7).n 8).v 2, (((h.n 4).n 7).n 8).n 2, by omega, by omega, ?_⟩
          rw [h8] at e3
          simp -dsimp [lB, S.body, Ss.tl, Ss.hd, b_law, h5, h5i, e3, e4]
        · have h8i : ¬ (((h.n 4).n 7).v 8 : Int) = 0 := by omega
          refine ⟨1 + h.v 4, ((h.n 4).n 7).n 8, by omega, by omega, ?_⟩
          simp -dsimp [lB, S.body, Ss.tl, Ss.hd, b_law, h5, h5i, e3, h8, h8i]
    obtain ⟨P, H, p1, p2, s3⟩ := s3
    simp only [List.set_cons_succ, List.set_cons_zero]
    rw [cut, s1, fb_nx, cut, s2, fb_nx, cut, s3, fb_nx]
    exact l_rest (k := 32) p1 p2 v2 _
  · rintro ρ2 S2 ⟨h, a, b, c, d, e, f, g, j, rfl, rfl⟩
    simp -dsimp [Ss.tl, b_law]
    exact gcR_val (S := []) (T := [hO h]) rfl
end LK82
end
section
set_option Elab.async false
set_option linter.all false
set_option maxRecDepth 100000
set_option maxHeartbeats 0
set_option autoImplicit false
open PySem PySem.W PySem.Calls PyProof.Rows
theorem PySem.Challenge.cw_likeslips_k82_facts_and_looks_refused_holds : PySem.Challenge.rw_likeslips_k82_facts_and_looks_refused.Holds := by
  w_on; o_law
  refine HandSHeadRun.head_any (r := OpenLaw.row PySem.Challenge.rw_likeslips_k82_facts_and_looks_refused) (q := view (OpenLaw.row PySem.Challenge.rw_likeslips_k82_facts_and_looks_refused).prog [46]) (H := LK82.hk) (ob := LK82.ob) (M := 6000) (loose := LK82.names) (d := HandSHeadRun.topDef (OpenLaw.row PySem.Challenge.rw_likeslips_k82_facts_and_looks_refused).prog 46) (kwd := []) LK82.ob_eq
    (by kernel_rfl) (fun s => by kernel_rfl) LK82.run (by kernel_rfl) (by kernel_rfl) (by kernel_rfl) (by rfl) (by first | assumption | decide +kernel) (by decide +kernel) ⟨rfl, rfl, rfl, rfl, rfl, by decide +kernel⟩ ?hw ?hc
  case hw => w_witness2
  case hc =>
    refine LamX.walk_ofTsE (l := PySem.Challenge.rw_likeslips_k82_facts_and_looks_refused) (n := 63) (k := 60 + 1 + 3) (x := "_law_script") (CX := fun w => L2.CX (PySem.Challenge.rw_likeslips_k82_facts_and_looks_refused).prog w) rfl (by decide) (by kernel_rfl) ⟨rfl, by decide, by decide⟩ ?F (fun w H s e s2 z => by obtain ⟨_, _, _, _, _, _, _, _, _, _, _, _, q⟩ := z; exact q)
    intro w mg fa h Y G hmg0
    obtain ⟨K, KX, c⟩ := Y
    have hmg : mg ("law" : PySem.Str) = some (.ref fa) := by
      have e : (HandSHeadRun.topDef (OpenLaw.row PySem.Challenge.rw_likeslips_k82_facts_and_looks_refused).prog 46).name = ("law" : PySem.Str) := by kernel_rfl
      rw [← e]
      exact hmg0
    obtain ⟨fd, hb, hF⟩ := LK82.facts (P := (PySem.Challenge.rw_likeslips_k82_facts_and_looks_refused).prog) (w := w) KX G c hmg
    exact ⟨K, KX, fd, [], _, fun p hp => absurd hp (by simp), fun p hp => absurd hp (by simp), fun p hp => absurd hp (by simp), hb, fun H a ns hl hbits _ hS => Ev.law_sp (F := Ev.fxOf LK82.tl K LK82.an_nd) hS (LK82.law_true ns hl hbits), fun base _ _ _ => hF base⟩
end
