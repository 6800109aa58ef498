import PyProof.Rows.All
import HandS.ForMost
import HandS.Exc
import HandS.ExcOwn
import HandS.WordsExc
import HandS.TryMany
import HandS.ExcField
import HandS.ExcIs
import HandS.IsInst
import HandS.TupAny
import HandS.Walk
import HandS.Zip
import HandS.Wide
import HandS.Defaults
import HandS.DictComp
import PyProof.StrOps2
import HandS.TupMul
import HandS.IntHex
import PyProof.ListStr
import PyProof.TupleOfStr
import HandS.TupLen
import HandS.SetFor
import HandS.SortInts
import HandS.Strs
import KE.GoesEnum
import KE.SortData
import HandS.Conv
import HandS.ExcInit
import HandS.HeadWalk
import HandS.HeadHook4
import PySem.Challenge.RW_likeslips_k78_whole_rows_of_machines
import HandS.Head0
import HandS.Head1
import HandS.Head2
import HandS.HeadEnd
section
set_option Elab.async false
set_option linter.all false
set_option maxRecDepth 100000
set_option maxHeartbeats 4000000
set_option autoImplicit false
/-! Ev, part A: values, the store, what stands for them in the heap. -/
namespace Ev
open PySem PySem.Spec PyProof.Rows L2

inductive D where
  | non | bl (b : Bool) | int (i : Int) | str (cs : List Nat)
  | tup (ds : List D) | lst (ds : List D) | fl (ds : List D) | ft (ds : List D)
  | dk (ks : List Key) (vs : List D) | dt (ks : List (List Key)) (vs : List D)
  | ins (C : Nat) (fs : List Nat) (vs : List D)
  | ref (n : Nat) | cls (x : Nat)
  deriving Inhabited

inductive O where
  | lst (ds : List D)
  | dK (ks : List Key) (vs : List D)
  | dT (ks : List (List Key)) (vs : List D)
  | ins (C : Nat) (fs : List Nat) (vs : List D)
  deriving Inhabited

structure Exn where
  c : Nat
  fs : List Nat
  vs : List D

abbrev mkS (cs : List Nat) : Str := ⟨cs.toArray⟩

def kLst (K : PySem.W.Frag) (a : Addr) (xs : List V) : Prop := ∃ (o : Obj) (its : Array Value) (n : Nat), K.lookup a = some o ∧ o.cls = .type "list" ∧ o.dict = none ∧ o.data = .seq its n ∧ its.size ≤ sizeLine ∧ Vals xs its.toList
def kTup (K : PySem.W.Frag) (a : Addr) (xs : List V) : Prop := ∃ (o : Obj) (its : Array Value) (n : Nat), K.lookup a = some o ∧ o.cls = .type "tuple" ∧ o.data = .seq its n ∧ its.size ≤ sizeLine ∧ Vals xs its.toList

/-- the fixed part: the written fragment, the addresses of the own classes -/
structure Fx where
  K : PySem.W.Frag
  ca : Nat → Addr
  an : List Str
  nd : an.Nodup
/-- the attribute's name -/
def Fx.nm (F : Fx) (i : Nat) : Str := F.an.getD i ""
theorem getD_of {α : Type} {l : List α} {i : Nat} {d : α} (h : i < l.length) : l.getD i d = l[i] := by
  rw [List.getD_eq_getElem?_getD, List.getElem?_eq_getElem h]; rfl
theorem Fx.inj {F : Fx} {i j : Nat} (hi : i < F.an.length) (hj : j < F.an.length) (e : F.nm i = F.nm j) : i = j := by
  unfold Fx.nm at e
  rw [getD_of hi, getD_of hj] at e
  exact (List.getElem_inj F.nd).mp e

abbrev Mu := List Addr

mutual
def Rep (F : Fx) (μ : Mu) (H : Hp) : D → V → Prop
  | .non, v => v = .non
  | .bl b, v => v = .bl b
  | .int i, v => v = .int i
  | .str cs, v => v = .str (mkS cs)
  | .tup ds, v => ∃ a vs, v = .ref a ∧ (a ∉ μ ∧ H a = some (.tup vs)) ∧ RepL F μ H ds vs
  | .ft ds, v => ∃ a vs, v = .ref a ∧ ((a ∉ μ ∧ Rd H a (.tup vs)) ∨ kTup F.K a vs) ∧ RepL F μ H ds vs
  | .lst ds, v => ∃ a vs, v = .ref a ∧ (a ∉ μ ∧ H a = some (.lst vs)) ∧ RepL F μ H ds vs
  | .fl ds, v => ∃ a vs, v = .ref a ∧ ((a ∉ μ ∧ Rd H a (.lst vs)) ∨ kLst F.K a vs) ∧ RepL F μ H ds vs
  | .dk ks ds, v => ∃ a vs, v = .ref a ∧ a ∉ μ ∧ H a = some (.dK (ks.zip vs)) ∧ ks.length = ds.length ∧ RepL F μ H ds vs
  | .dt ks ds, v => ∃ a vs, v = .ref a ∧ a ∉ μ ∧ H a = some (.dT (ks.zip vs)) ∧ ks.length = ds.length ∧ RepL F μ H ds vs
  | .ins C fs ds, v => ∃ a dx vs, v = .ref a ∧ a ∉ μ ∧ H a = some (.ins (F.ca C) dx ((fs.map F.nm).zip vs)) ∧ fs.length = ds.length ∧ (∀ f ∈ fs, f < F.an.length) ∧ RepL F μ H ds vs
  | .ref n, v => ∃ a, v = .ref a ∧ μ[n]? = some a
  | .cls x, v => v = .ref (F.ca x)
def RepL (F : Fx) (μ : Mu) (H : Hp) : List D → List V → Prop
  | [], vs => vs = []
  | d :: ds, vs => ∃ v r, vs = v :: r ∧ Rep F μ H d v ∧ RepL F μ H ds r
end

/-- what a stored object stands for -/
def ORep (F : Fx) (μ : Mu) (H : Hp) (a : Addr) : O → Prop
  | .lst ds => ∃ vs, H a = some (.lst vs) ∧ RepL F μ H ds vs
  | .dK ks ds => ∃ vs, H a = some (.dK (ks.zip vs)) ∧ ks.length = ds.length ∧ RepL F μ H ds vs
  | .dT ks ds => ∃ vs, H a = some (.dT (ks.zip vs)) ∧ ks.length = ds.length ∧ RepL F μ H ds vs
  | .ins C fs ds => ∃ dx vs, H a = some (.ins (F.ca C) dx ((fs.map F.nm).zip vs)) ∧ fs.length = ds.length ∧ (∀ f ∈ fs, f < F.an.length) ∧ RepL F μ H ds vs

structure Rel (F : Fx) (μ : Mu) (S : List O) (H : Hp) : Prop where
  len : μ.length = S.length
  nd : μ.Nodup
  obj : ∀ (n : Nat) (o : O) (a : Addr), S[n]? = some o → μ[n]? = some a → ORep F μ H a o

structure Ext (μ : Mu) (H : Hp) (μ' : Mu) (H' : Hp) : Prop where
  pre : ∃ t, μ' = μ ++ t
  keep : ∀ a o, a ∉ μ → H a = some o → H' a = some o ∧ a ∉ μ'

theorem Ext.refl (μ : Mu) (H : Hp) : Ext μ H μ H := ⟨⟨[], by simp⟩, fun _ _ h e => ⟨e, h⟩⟩
theorem Ext.trans {μ1 μ2 μ3 : Mu} {H1 H2 H3 : Hp} (a : Ext μ1 H1 μ2 H2) (b : Ext μ2 H2 μ3 H3) : Ext μ1 H1 μ3 H3 := by
  refine ⟨?_, fun c o h e => ?_⟩
  · obtain ⟨t, rfl⟩ := a.pre
    obtain ⟨u, rfl⟩ := b.pre
    exact ⟨t ++ u, by simp⟩
  · obtain ⟨e1, h1⟩ := a.keep c o h e
    exact b.keep c o h1 e1
theorem Ext.get {μ μ' : Mu} {H H' : Hp} (x : Ext μ H μ' H') {n : Nat} {a : Addr} (h : μ[n]? = some a) : μ'[n]? = some a := by
  obtain ⟨t, rfl⟩ := x.pre
  obtain ⟨h1, h2⟩ := List.getElem?_eq_some_iff.mp h
  rw [List.getElem?_append_left h1]; exact h
theorem Ext.rd {μ μ' : Mu} {H H' : Hp} (x : Ext μ H μ' H') {a : Addr} {u : HO} (h : a ∉ μ ∧ Rd H a u) : a ∉ μ' ∧ Rd H' a u := by
  obtain ⟨h1, h2 | ⟨o, h2⟩⟩ := h
  · obtain ⟨e, m⟩ := x.keep a _ h1 h2
    exact ⟨m, .inl e⟩
  · obtain ⟨e, m⟩ := x.keep a _ h1 h2
    exact ⟨m, .inr ⟨o, e⟩⟩

section
variable {F : Fx} {μ μ' : Mu} {H H' : Hp}
mutual
theorem Rep.mono (x : Ext μ H μ' H') : ∀ (d : D) (v : V), Rep F μ H d v → Rep F μ' H' d v
  | .non, _, h => h
  | .bl _, _, h => h
  | .int _, _, h => h
  | .str _, _, h => h
  | .tup ds, v, h => by
    obtain ⟨a, vs, e, q, r⟩ := h
    obtain ⟨q1, q2⟩ := x.keep a _ q.1 q.2
    exact ⟨a, vs, e, ⟨q2, q1⟩, RepL.mono x ds vs r⟩
  | .ft ds, v, h => by
    obtain ⟨a, vs, e, q, r⟩ := h
    exact ⟨a, vs, e, q.imp x.rd id, RepL.mono x ds vs r⟩
  | .lst ds, v, h => by
    obtain ⟨a, vs, e, q, r⟩ := h
    obtain ⟨q1, q2⟩ := x.keep a _ q.1 q.2
    exact ⟨a, vs, e, ⟨q2, q1⟩, RepL.mono x ds vs r⟩
  | .fl ds, v, h => by
    obtain ⟨a, vs, e, q, r⟩ := h
    exact ⟨a, vs, e, q.imp x.rd id, RepL.mono x ds vs r⟩
  | .dk ks ds, v, h => by
    obtain ⟨a, vs, e, m, q, l, r⟩ := h
    obtain ⟨q', m'⟩ := x.keep a _ m q
    exact ⟨a, vs, e, m', q', l, RepL.mono x ds vs r⟩
  | .dt ks ds, v, h => by
    obtain ⟨a, vs, e, m, q, l, r⟩ := h
    obtain ⟨q', m'⟩ := x.keep a _ m q
    exact ⟨a, vs, e, m', q', l, RepL.mono x ds vs r⟩
  | .ins C fs ds, v, h => by
    obtain ⟨a, dx, vs, e, m, q, l, b, r⟩ := h
    obtain ⟨q', m'⟩ := x.keep a _ m q
    exact ⟨a, dx, vs, e, m', q', l, b, RepL.mono x ds vs r⟩
  | .ref n, v, h => by
    obtain ⟨a, e, q⟩ := h
    exact ⟨a, e, x.get q⟩
  | .cls _, _, h => h
theorem RepL.mono (x : Ext μ H μ' H') : ∀ (ds : List D) (vs : List V), RepL F μ H ds vs → RepL F μ' H' ds vs
  | [], _, h => h
  | d :: ds, vs, h => by
    obtain ⟨v, r, e, h1, h2⟩ := h
    exact ⟨v, r, e, Rep.mono x d v h1, RepL.mono x ds r h2⟩
end

theorem RepL.length : ∀ {ds : List D} {vs : List V}, RepL F μ H ds vs → vs.length = ds.length
  | [], _, h => by cases (show _ = _ from h); rfl
  | d :: ds, _, h => by
    obtain ⟨v, r, rfl, _, h2⟩ := h
    simp [RepL.length h2]
theorem RepL.get : ∀ {ds : List D} {vs : List V} {i : Nat} {d : D}, RepL F μ H ds vs → ds[i]? = some d → ∃ v, vs[i]? = some v ∧ Rep F μ H d v
  | [], _, _, _, _, e => by simp at e
  | d :: ds, _, 0, _, h, e => by
    obtain ⟨v, r, rfl, h1, _⟩ := h
    simp at e; subst e; exact ⟨v, rfl, h1⟩
  | d :: ds, _, i + 1, _, h, e => by
    obtain ⟨v, r, rfl, _, h2⟩ := h
    obtain ⟨w, e1, e2⟩ := RepL.get h2 (i := i) (by simpa using e)
    exact ⟨w, by simpa using e1, e2⟩
theorem RepL.get' : ∀ {ds : List D} {vs : List V} {i : Nat} {v : V}, RepL F μ H ds vs → vs[i]? = some v → ∃ d, ds[i]? = some d ∧ Rep F μ H d v
  | [], _, _, _, h, e => by cases (show _ = _ from h); simp at e
  | d :: ds, _, 0, _, h, e => by
    obtain ⟨v, r, rfl, h1, _⟩ := h
    simp at e; subst e; exact ⟨d, rfl, h1⟩
  | d :: ds, _, i + 1, _, h, e => by
    obtain ⟨v, r, rfl, _, h2⟩ := h
    obtain ⟨w, e1, e2⟩ := RepL.get' h2 (i := i) (by simpa using e)
    exact ⟨w, by simpa using e1, e2⟩
theorem RepL.append : ∀ {ds es : List D} {vs us : List V}, RepL F μ H ds vs → RepL F μ H es us → RepL F μ H (ds ++ es) (vs ++ us)
  | [], _, _, _, h, h' => by cases (show _ = _ from h); exact h'
  | d :: ds, _, _, _, h, h' => by
    obtain ⟨v, r, rfl, h1, h2⟩ := h
    exact ⟨v, _, rfl, h1, RepL.append h2 h'⟩
theorem RepL.snoc {ds : List D} {vs : List V} {d : D} {v : V} (h : RepL F μ H ds vs) (h1 : Rep F μ H d v) : RepL F μ H (ds ++ [d]) (vs ++ [v]) :=
  h.append ⟨v, [], rfl, h1, rfl⟩
theorem RepL.take : ∀ {ds : List D} {vs : List V} (n : Nat), RepL F μ H ds vs → RepL F μ H (ds.take n) (vs.take n)
  | _, _, 0, _ => by simp [RepL]
  | [], _, _ + 1, h => by cases (show _ = _ from h); simp [RepL]
  | d :: ds, _, n + 1, h => by
    obtain ⟨v, r, rfl, h1, h2⟩ := h
    exact ⟨v, _, rfl, h1, RepL.take n h2⟩
theorem RepL.drop : ∀ {ds : List D} {vs : List V} (n : Nat), RepL F μ H ds vs → RepL F μ H (ds.drop n) (vs.drop n)
  | _, _, 0, h => by simpa using h
  | [], _, _ + 1, h => by cases (show _ = _ from h); simp [RepL]
  | d :: ds, _, n + 1, h => by
    obtain ⟨v, r, rfl, h1, h2⟩ := h
    exact RepL.drop n h2
theorem RepL.set : ∀ {ds : List D} {vs : List V} {d : D} {v : V} (i : Nat), RepL F μ H ds vs → Rep F μ H d v → RepL F μ H (ds.set i d) (vs.set i v)
  | [], _, _, _, _, h, _ => by cases (show _ = _ from h); simp [RepL]
  | d :: ds, _, _, _, 0, h, h' => by
    obtain ⟨v, r, rfl, h1, h2⟩ := h
    exact ⟨_, _, rfl, h', h2⟩
  | d :: ds, _, _, _, i + 1, h, h' => by
    obtain ⟨v, r, rfl, h1, h2⟩ := h
    exact ⟨v, _, rfl, h1, RepL.set i h2 h'⟩
theorem RepL.reverse {ds : List D} {vs : List V} (h : RepL F μ H ds vs) : RepL F μ H ds.reverse vs.reverse := by
  induction ds generalizing vs with
  | nil => cases (show _ = _ from h); simp [RepL]
  | cons d ds ih =>
    obtain ⟨v, r, rfl, h1, h2⟩ := h
    rw [List.reverse_cons, List.reverse_cons]
    exact (ih h2).snoc h1
theorem RepL.int : ∀ {ns : List Int} {vs : List V}, RepL F μ H (ns.map D.int) vs → vs = ns.map V.int
  | [], _, h => h
  | n :: ns, _, h => by
    obtain ⟨v, r, rfl, h1, h2⟩ := h
    cases (show _ = _ from h1)
    rw [RepL.int h2]; rfl
theorem RepL.bl : ∀ {ns : List Bool} {vs : List V}, RepL F μ H (ns.map D.bl) vs → vs = ns.map V.bl
  | [], _, h => h
  | n :: ns, _, h => by
    obtain ⟨v, r, rfl, h1, h2⟩ := h
    cases (show _ = _ from h1)
    rw [RepL.bl h2]; rfl
theorem RepL.strs : ∀ {ns : List (List Nat)} {vs : List V}, RepL F μ H (ns.map D.str) vs → vs = (ns.map mkS).map V.str
  | [], _, h => h
  | n :: ns, _, h => by
    obtain ⟨v, r, rfl, h1, h2⟩ := h
    cases (show _ = _ from h1)
    rw [RepL.strs h2]; rfl

theorem Rep.seqT {ds : List D} {v : V} (h : Rep F μ H (.tup ds) v) : ∃ a vs, v = .ref a ∧ SqT F.K H a vs ∧ RepL F μ H ds vs := by
  obtain ⟨a, vs, e, q, r⟩ := h
  exact ⟨a, vs, e, SqT.of q.2, r⟩
theorem Rep.seqF {ds : List D} {v : V} (h : Rep F μ H (.ft ds) v) : ∃ a vs, v = .ref a ∧ SqT F.K H a vs ∧ RepL F μ H ds vs := by
  obtain ⟨a, vs, e, q, r⟩ := h
  exact ⟨a, vs, e, q.imp (·.2) id, r⟩
theorem Rep.seqL {ds : List D} {v : V} (h : Rep F μ H (.fl ds) v) : ∃ a vs, v = .ref a ∧ SqL F.K H a vs ∧ RepL F μ H ds vs := by
  obtain ⟨a, vs, e, q, r⟩ := h
  exact ⟨a, vs, e, q.imp (·.2) id, r⟩

theorem ORep.some {a : Addr} {o : O} (h : ORep F μ H a o) : ∃ u, H a = some u := by
  cases o with
  | lst ds => obtain ⟨vs, e, _⟩ := h; exact ⟨_, e⟩
  | dK ks ds => obtain ⟨vs, e, _⟩ := h; exact ⟨_, e⟩
  | dT ks ds => obtain ⟨vs, e, _⟩ := h; exact ⟨_, e⟩
  | ins C fs ds => obtain ⟨dx, vs, e, _⟩ := h; exact ⟨_, e⟩
theorem Rel.mem {S : List O} (r : Rel F μ S H) {a : Addr} (h : a ∈ μ) : ∃ u, H a = some u := by
  obtain ⟨n, hn, e⟩ := List.mem_iff_getElem.mp h
  have h1 : n < S.length := by rw [← r.len]; exact hn
  exact (r.obj n S[n] a (List.getElem?_eq_getElem h1) (by rw [List.getElem?_eq_getElem hn, e])).some
theorem Rel.fresh {S : List O} (r : Rel F μ S H) {a : Addr} (h : H a = none) : a ∉ μ := fun m => by
  obtain ⟨u, e⟩ := r.mem m
  rw [h] at e; cases e
/-- the object at an address, with the same content, in a later heap -/
theorem ORep.to {a : Addr} {o : O} (h : ORep F μ H a o) (x : Ext μ H μ' H') (e : H' a = H a) : ORep F μ' H' a o := by
  cases o with
  | lst ds => obtain ⟨vs, q, r⟩ := h; exact ⟨vs, e.trans q, r.mono x⟩
  | dK ks ds => obtain ⟨vs, q, l, r⟩ := h; exact ⟨vs, e.trans q, l, r.mono x⟩
  | dT ks ds => obtain ⟨vs, q, l, r⟩ := h; exact ⟨vs, e.trans q, l, r.mono x⟩
  | ins C fs ds => obtain ⟨dx, vs, q, l, b, r⟩ := h; exact ⟨dx, vs, e.trans q, l, b, r.mono x⟩

/-- a new thing that is nobody's (a tuple, a frozen list) -/
theorem Ext.laid {p : Addr} {u : HO} (h : H p = none) : Ext μ H μ (upd H p u) :=
  ⟨⟨[], by simp⟩, fun a o m e => ⟨by rw [upd_ne (ne_of_none e h)]; exact e, m⟩⟩
theorem Rel.laid {S : List O} {p : Addr} {u : HO} (r : Rel F μ S H) (h : H p = none) : Rel F μ S (upd H p u) :=
  ⟨r.len, r.nd, fun n o a e1 e2 => (r.obj n o a e1 e2).to (Ext.laid h) (upd_ne fun z => by
    have := r.fresh h; rw [← z] at this; exact this (List.mem_of_getElem? e2))⟩
/-- a new stored object -/
theorem Ext.push {p : Addr} {u : HO} (h : H p = none) : Ext μ H (μ ++ [p]) (upd H p u) :=
  ⟨⟨[p], rfl⟩, fun a o m e => ⟨by rw [upd_ne (ne_of_none e h)]; exact e, by
    simp only [List.mem_append, List.mem_singleton, not_or]; exact ⟨m, ne_of_none e h⟩⟩⟩
theorem Rel.push {S : List O} {p : Addr} {u : HO} {o : O} (r : Rel F μ S H) (h : H p = none) (ho : ORep F (μ ++ [p]) (upd H p u) p o) : Rel F (μ ++ [p]) (S ++ [o]) (upd H p u) := by
  have hp := r.fresh h
  refine ⟨by simp [r.len], ?_, fun n o' a e1 e2 => ?_⟩
  · rw [List.nodup_append]
    refine ⟨r.nd, by simp, fun a ha b hb => ?_⟩
    simp at hb; subst hb; rintro rfl; exact hp ha
  · by_cases hn : n < S.length
    · rw [List.getElem?_append_left hn] at e1
      rw [List.getElem?_append_left (by rw [r.len]; exact hn)] at e2
      exact (r.obj n o' a e1 e2).to (Ext.push h) (upd_ne fun z => by subst z; exact hp (List.mem_of_getElem? e2))
    · have hn' : n = S.length := by
        obtain ⟨q, _⟩ := List.getElem?_eq_some_iff.mp e1
        simp at q; omega
      subst hn'
      rw [List.getElem?_append_right (Nat.le_refl _)] at e1
      rw [List.getElem?_append_right (by rw [r.len]; exact Nat.le_refl _)] at e2
      simp [r.len] at e1 e2
      subst e1 e2
      exact ho
/-- a stored object is changed -/
theorem Ext.wr {a : Addr} {u : HO} (h : a ∈ μ) : Ext μ H μ (upd H a u) :=
  ⟨⟨[], by simp⟩, fun b o m e => ⟨by rw [upd_ne (fun z => by subst z; exact m h)]; exact e, m⟩⟩
theorem Rel.wr {S : List O} {n : Nat} {a : Addr} {u : HO} {o : O} (r : Rel F μ S H) (e : μ[n]? = some a) (ho : ORep F μ (upd H a u) a o) : Rel F μ (S.set n o) (upd H a u) := by
  have hm : a ∈ μ := List.mem_of_getElem? e
  refine ⟨by simp [r.len], r.nd, fun k o' b e1 e2 => ?_⟩
  by_cases hk : k = n
  · subst hk
    rw [e] at e2; cases e2
    have hl : k < S.length := by rw [← r.len]; exact (List.getElem?_eq_some_iff.mp e).1
    rw [List.getElem?_set_self hl] at e1
    cases e1; exact ho
  · rw [List.getElem?_set_ne (Ne.symm hk)] at e1
    refine (r.obj k o' b e1 e2).to (Ext.wr hm) (upd_ne fun z => ?_)
    subst z
    obtain ⟨h1, q1⟩ := List.getElem?_eq_some_iff.mp e
    obtain ⟨h2, q2⟩ := List.getElem?_eq_some_iff.mp e2
    exact hk ((List.getElem_inj r.nd).mp (q2.trans q1.symm))
end
end Ev
end
section
set_option Elab.async false
set_option linter.all false
set_option maxRecDepth 100000
set_option maxHeartbeats 4000000
set_option autoImplicit false
/-! Ev, part B: operations on values, and that the model does them. -/
namespace Ev
open PySem PySem.Spec PyProof.Rows L2

inductive R (α : Type) where
  | ok (a : α) (S : List O) | ex (x : Exn) (S : List O) | bad
def R.bind {α β : Type} (r : R α) (f : α → List O → R β) : R β := match r with
  | .ok a S => f a S
  | .ex x S => .ex x S
  | .bad => .bad
@[simp] theorem R.bind_ok {α β : Type} (a : α) (S : List O) (f : α → List O → R β) : (R.ok a S).bind f = f a S := rfl
@[simp] theorem R.bind_ex {α β : Type} (a : Exn) (S : List O) (f : α → List O → R β) : (R.ex a S).bind f = .ex a S := rfl
@[simp] theorem R.bind_bad {α β : Type} (f : α → List O → R β) : (R.bad).bind f = .bad := rfl

/-- the list that a value is (a stored one, a frozen one) -/
def listOf (S : List O) : D → Option (List D)
  | .lst ds => some ds
  | .ref n => (match S[n]? with
    | some (.lst ds) => some ds
    | _ => none)
  | _ => none
/-- the list that a value is, to be read -/
def rdL (S : List O) : D → Option (List D)
  | .fl ds => some ds
  | d => listOf S d
/-- a list's or a tuple's items -/
def seqOf (S : List O) : D → Option (List D)
  | .tup ds => some ds
  | .ft ds => some ds
  | d => rdL S d

section
variable {F : Fx} {μ : Mu} {H : Hp} {S : List O} {d : D} {v : V} {ds : List D}
theorem listOf_rep (rel : Rel F μ S H) (h : Rep F μ H d v) (e : listOf S d = some ds) : ∃ a vs, v = .ref a ∧ H a = some (.lst vs) ∧ RepL F μ H ds vs := by
  unfold listOf at e
  split at e
  · cases e
    obtain ⟨a, vs, rfl, q, r⟩ := h
    exact ⟨a, vs, rfl, q.2, r⟩
  · rename_i n
    obtain ⟨a, rfl, hm⟩ := h
    split at e
    · rename_i es hn
      cases e
      obtain ⟨vs, q, r⟩ := rel.obj n _ a hn hm
      exact ⟨a, vs, rfl, q, r⟩
    · cases e
  · cases e
theorem rdL_rep (rel : Rel F μ S H) (h : Rep F μ H d v) (e : rdL S d = some ds) : ∃ a vs, v = .ref a ∧ SqL F.K H a vs ∧ RepL F μ H ds vs := by
  unfold rdL at e
  split at e
  · cases e; exact h.seqL
  · obtain ⟨a, vs, rfl, q, r⟩ := listOf_rep rel h e
    exact ⟨a, vs, rfl, SqL.of q, r⟩
theorem seqOf_rep (rel : Rel F μ S H) (h : Rep F μ H d v) (e : seqOf S d = some ds) : ∃ a vs, v = .ref a ∧ (SqL F.K H a vs ∨ SqT F.K H a vs) ∧ RepL F μ H ds vs := by
  unfold seqOf at e
  split at e
  · cases e
    obtain ⟨a, vs, rfl, q, r⟩ := h.seqT
    exact ⟨a, vs, rfl, .inr q, r⟩
  · cases e
    obtain ⟨a, vs, rfl, q, r⟩ := h.seqF
    exact ⟨a, vs, rfl, .inr q, r⟩
  · obtain ⟨a, vs, rfl, q, r⟩ := rdL_rep rel h e
    exact ⟨a, vs, rfl, .inl q, r⟩
end

/-- what is wanted of a primitive's end -/
def P1 (F : Fx) (μ : Mu) (H : Hp) (r : R D) (Q : VK) : Prop := match r with
  | .ok d S' => ∀ μ' H' v, Ext μ H μ' H' → Rel F μ' S' H' → Rep F μ' H' d v → Q v H'
  | _ => False
def rP2 (F : Fx) (f : D → D → List O → R D) : R2 := fun x y H Q => ∃ μ S d e, Rel F μ S H ∧ Rep F μ H d x ∧ Rep F μ H e y ∧ P1 F μ H (f d e S) Q
def rPn (F : Fx) (f : List D → List O → R D) : List V → Hp → VK → Prop := fun xs H Q => ∃ μ S ds, Rel F μ S H ∧ RepL F μ H ds xs ∧ P1 F μ H (f ds S) Q
def rPm (F : Fx) (f : D → List D → List O → R D) : V → List V → Hp → VK → Prop := fun x xs H Q => ∃ μ S d ds, Rel F μ S H ∧ Rep F μ H d x ∧ RepL F μ H ds xs ∧ P1 F μ H (f d ds S) Q

section
variable {F : Fx} {μ : Mu} {H : Hp} {S : List O} {d : D} {Q : VK} {v : V}
theorem P1.here (p : P1 F μ H (.ok d S) Q) (rel : Rel F μ S H) (r : Rep F μ H d v) : Q v H := p μ H v (Ext.refl _ _) rel r
theorem P1.tup {ds : List D} {vs : List V} (p : P1 F μ H (.ok (.tup ds) S) Q) (rel : Rel F μ S H) (r : RepL F μ H ds vs) : ∀ a, H a = none → Q (.ref a) (upd H a (.tup vs)) := fun a n =>
  p μ _ _ (Ext.laid n) (rel.laid n) ⟨a, vs, rfl, ⟨rel.fresh n, upd_same⟩, r.mono (Ext.laid n)⟩
theorem P1.lst {ds : List D} {vs : List V} (p : P1 F μ H (.ok (.lst ds) S) Q) (rel : Rel F μ S H) (r : RepL F μ H ds vs) : ∀ a, H a = none → Q (.ref a) (upd H a (.lst vs)) := fun a n =>
  p μ _ _ (Ext.laid n) (rel.laid n) ⟨a, vs, rfl, ⟨rel.fresh n, upd_same⟩, r.mono (Ext.laid n)⟩
/-- a new stored object -/
theorem P1.new {o : O} {u : HO} (p : P1 F μ H (.ok (.ref S.length) (S ++ [o])) Q) (rel : Rel F μ S H) (h : ∀ a, H a = none → ORep F (μ ++ [a]) (upd H a u) a o) : ∀ a, H a = none → Q (.ref a) (upd H a u) := fun a n =>
  p _ _ _ (Ext.push n) (rel.push n (h a n)) ⟨a, rfl, by rw [← rel.len]; simp⟩
/-- a stored object is changed -/
theorem P1.wr {o : O} {u : HO} {n : Nat} {a : Addr} (p : P1 F μ H (.ok d (S.set n o)) Q) (rel : Rel F μ S H) (e : μ[n]? = some a) (h : ORep F μ (upd H a u) a o) (r : Rep F μ (upd H a u) d v) : Q v (upd H a u) :=
  p _ _ _ (Ext.wr (List.mem_of_getElem? e)) (rel.wr e h) r
end

/-! ### data for == -/
mutual
def pyD : D → PyData
  | .non => .none
  | .bl b => .bool b
  | .int i => .int i
  | .str cs => .str (mkS cs)
  | .tup ds => .tuple (pyL ds)
  | .ft ds => .tuple (pyL ds)
  | .lst ds => .list (pyL ds)
  | .fl ds => .list (pyL ds)
  | .dk _ _ | .dt _ _ | .ins _ _ _ | .ref _ | .cls _ => .dict []
def pyL : List D → List PyData
  | [] => []
  | d :: ds => pyD d :: pyL ds
end
mutual
def okD : D → Bool
  | .non | .bl _ | .int _ => true
  | .str cs => cs.all (· < 0x110000)
  | .tup ds | .lst ds | .fl ds | .ft ds => okL ds
  | .dk _ _ | .dt _ _ | .ins _ _ _ | .ref _ | .cls _ => false
def okL : List D → Bool
  | [] => true
  | d :: ds => okD d && okL ds
end
mutual
theorem okD_lay : ∀ d : D, okD d = true → (pyD d).canLay0 = true
  | .non, _ => rfl
  | .bl _, _ => rfl
  | .int _, _ => rfl
  | .str cs, h => by
    show PyData.strOk (mkS cs) = true
    unfold PyData.strOk
    rw [← Array.all_toList]
    exact h
  | .tup ds, h => okL_lay ds h
  | .lst ds, h => okL_lay ds h
  | .fl ds, h => okL_lay ds h
  | .ft ds, h => okL_lay ds h
theorem okL_lay : ∀ ds : List D, okL ds = true → PyData.canLayAll0 (pyL ds) = true
  | [], _ => rfl
  | d :: ds, h => by
    have h' := Bool.and_eq_true_iff.mp (show (okD d && okL ds) = true from h)
    show (_ && _) = true
    rw [okD_lay d h'.1, okL_lay ds h'.2]; rfl
end
mutual
theorem Rep.dp {F : Fx} {μ : Mu} {H : Hp} : ∀ (d : D) (v : V), okD d = true → Rep F μ H d v → Dp F.K H v (pyD d)
  | .non, v, _, h => by cases (show _ = _ from h); exact .non
  | .bl _, v, _, h => by cases (show _ = _ from h); exact .bl _
  | .int _, v, _, h => by cases (show _ = _ from h); exact .int _
  | .str _, v, _, h => by cases (show _ = _ from h); exact .str _
  | .tup ds, v, o, h => by
    obtain ⟨a, vs, rfl, q, r⟩ := Rep.seqT h
    exact .tup q (RepL.dp ds vs o r)
  | .lst ds, v, o, h => by
    obtain ⟨a, vs, rfl, q, r⟩ := h
    exact .lst (SqL.of q.2) (RepL.dp ds vs o r)
  | .fl ds, v, o, h => by
    obtain ⟨a, vs, rfl, q, r⟩ := Rep.seqL h
    exact .lst q (RepL.dp ds vs o r)
  | .ft ds, v, o, h => by
    obtain ⟨a, vs, rfl, q, r⟩ := Rep.seqF h
    exact .tup q (RepL.dp ds vs o r)
theorem RepL.dp {F : Fx} {μ : Mu} {H : Hp} : ∀ (ds : List D) (vs : List V), okL ds = true → RepL F μ H ds vs → DpAll F.K H vs (pyL ds)
  | [], vs, _, h => by cases (show _ = _ from h); exact .nil
  | d :: ds, vs, o, h => by
    have h' := Bool.and_eq_true_iff.mp (show (okD d && okL ds) = true from o)
    obtain ⟨v, r, rfl, h1, h2⟩ := h
    exact .cons (Rep.dp d v h'.1 h1) (RepL.dp ds r h'.2 h2)
end
/-- may be compared -/
def shD (d : D) : Bool := okD d && decide ((pyD d).depth ≤ 60)
theorem shD_shaped {d : D} (h : shD d = true) : SeqAt.shaped (pyD d) = true := by
  have h' := Bool.and_eq_true_iff.mp h
  show (_ && _) = true
  rw [okD_lay d h'.1, Bool.true_and]
  have := of_decide_eq_true h'.2
  exact decide_eq_true (by omega)
def eqD (d e : D) : Bool := PyData.eqv (pyD d) (pyD e)

section
variable {X : Cx} {F : Fx}
theorem OpR.imp {f : Value → Value → Sem Value} {r r' : R2} (h : OpR X f r) (i : ∀ x y H Q, r' x y H Q → r x y H Q) : OpR X f r' :=
  fun pins s σ H x y v u Q I rx ry q => h pins s σ H x y v u Q I rx ry (i _ _ _ _ q)
theorem CallR.imp {f : Value} {r r' : List V → Hp → VK → Prop} (h : CallR X f r) (i : ∀ x H Q, r' x H Q → r x H Q) : CallR X f r' :=
  fun pins s σ H xs us Q I rs q => h pins s σ H xs us Q I rs (i _ _ _ q)
theorem MtR.imp {id : String} {r r' : V → List V → Hp → VK → Prop} (h : MtR X id r) (i : ∀ x xs H Q, r' x xs H Q → r x xs H Q) : MtR X id r' :=
  fun pins s σ H x xs v us Q I rx rs q => h pins s σ H x xs v us Q I rx rs (i _ _ _ _ q)

/-- lists of unlike lengths -/
def rLL (neg : Bool) : R2 := fun x y H Q => ∃ a b xs ys, x = .ref a ∧ y = .ref b ∧ H a = some (.lst xs) ∧ H b = some (.lst ys) ∧ xs.length ≠ ys.length ∧ Q (.bl neg) H
theorem op_eqLL (hu : X.A.units + 64 < cLine) : OpR X (compareOp .Eq) (rLL false) := by
  intro pins s σ H x y v u Q I rx ry h
  obtain ⟨a, b, xs, ys, rfl, rfl, ha, hb, hne, q⟩ := h
  cases rx
  cases ry
  obtain ⟨z1, its1, n1, r1, l1, e1⟩ := I.lstM ha
  obtain ⟨z2, its2, n2, r2, l2, e2⟩ := I.lstM hb
  have h1 : s.heap.IsList a its1.toArray := ⟨_, e1, rfl, _, rfl⟩
  have h2 : s.heap.IsList b its2.toArray := ⟨_, e2, rfl, _, rfl⟩
  exact SeqAt.eq_list_lengthsAt h1 h2 (by simp; omega) (by omega) ⟨.bl _, H, I, rfl, q⟩
theorem op_neLL (hu : X.A.units + 64 < cLine) : OpR X (compareOp .NotEq) (rLL true) := by
  intro pins s σ H x y v u Q I rx ry h
  obtain ⟨a, b, xs, ys, rfl, rfl, ha, hb, hne, q⟩ := h
  cases rx
  cases ry
  obtain ⟨z1, its1, n1, r1, l1, e1⟩ := I.lstM ha
  obtain ⟨z2, its2, n2, r2, l2, e2⟩ := I.lstM hb
  have h1 : s.heap.IsList a its1.toArray := ⟨_, e1, rfl, _, rfl⟩
  have h2 : s.heap.IsList b its2.toArray := ⟨_, e2, rfl, _, rfl⟩
  exact SeqAt.RcNeAt.lists_lengths h1 h2 (by simp; omega) (by omega) _ _ _ _ ⟨.bl _, H, I, rfl, q⟩
/-- tuples, one of them empty -/
def rTT (neg : Bool) (K : PySem.W.Frag) : R2 := fun x y H Q => ∃ a b xs ys, x = .ref a ∧ y = .ref b ∧ SqT K H a xs ∧ SqT K H b ys ∧ (xs = [] ∨ ys = []) ∧ Q (.bl (neg != (xs.length == ys.length))) H
theorem min0 {a b : Nat} (h : a = 0 ∨ b = 0) : min a b = 0 := by omega
theorem op_eqTT (hu : X.A.units + 64 < cLine) : OpR X (compareOp .Eq) (rTT false X.K) := by
  intro pins s σ H x y v u Q I rx ry h
  obtain ⟨a, b, xs, ys, rfl, rfl, ha, hb, hne, q⟩ := h
  cases rx
  cases ry
  obtain ⟨its1, r1, p1, z1⟩ := I.tuple ha
  obtain ⟨its2, r2, p2, z2⟩ := I.tuple hb
  have l1 := r1.length
  have l2 := r2.length
  have hm : min its1.toArray.size its2.toArray.size = 0 := min0 (by
    rcases hne with e | e
    · left; rw [List.size_toArray, ← l1, e]; rfl
    · right; rw [List.size_toArray, ← l2, e]; rfl)
  refine SeqAt.eq_tupleAt (e := fun _ => true) p1 p2 (by omega) (fun j h1 h2 => absurd (Nat.lt_min.mpr ⟨h1, h2⟩) (by rw [hm]; omega)) ⟨.bl _, H, I, rfl, ?_⟩
  rw [hm]
  simpa [← l1, ← l2] using q
theorem op_neTT (hu : X.A.units + 64 < cLine) : OpR X (compareOp .NotEq) (rTT true X.K) := by
  intro pins s σ H x y v u Q I rx ry h
  obtain ⟨a, b, xs, ys, rfl, rfl, ha, hb, hne, q⟩ := h
  cases rx
  cases ry
  obtain ⟨its1, r1, p1, z1⟩ := I.tuple ha
  obtain ⟨its2, r2, p2, z2⟩ := I.tuple hb
  have l1 := r1.length
  have l2 := r2.length
  have hm : min its1.toArray.size its2.toArray.size = 0 := min0 (by
    rcases hne with e | e
    · left; rw [List.size_toArray, ← l1, e]; rfl
    · right; rw [List.size_toArray, ← l2, e]; rfl)
  refine SeqAt.RcNeAt.tuples (e := fun _ => true) p1 p2 (by omega) (fun j h1 h2 => absurd (Nat.lt_min.mpr ⟨h1, h2⟩) (by rw [hm]; omega)) _ _ _ _ ⟨.bl _, H, I, rfl, ?_⟩
  rw [hm]
  simpa [← l1, ← l2] using q
def eqDS (neg : Bool) (x y : D) (S : List O) : R D :=
  match listOf S x, listOf S y with
  | some a, some b => if a.length ≠ b.length then .ok (.bl neg) S else if shD (.lst a) && shD (.lst b) then .ok (.bl (neg != eqD (.lst a) (.lst b))) S else .bad
  | _, _ => match x, y with
    | .tup a, .tup b => if a = [] ∨ b = [] then .ok (.bl (neg != (a.length == b.length))) S else if shD (.tup a) && shD (.tup b) then .ok (.bl (neg != eqD (.tup a) (.tup b))) S else .bad
    | x, y => if shD x && shD y then .ok (.bl (neg != eqD x y)) S else .bad
theorem bne_false (b : Bool) : (false != b) = b := by cases b <;> rfl
theorem bne_true (b : Bool) : (true != b) = !b := by cases b <;> rfl
theorem repD {μ : Mu} {H : Hp} {d e : D} {x y : V} (K : PySem.W.Frag) (hk : F.K = K) (h1 : Rep F μ H d x) (h2 : Rep F μ H e y) (hs : (shD d && shD e) = true) : Dp K H x (pyD d) ∧ Dp K H y (pyD e) ∧ SeqAt.shaped (pyD d) = true ∧ SeqAt.shaped (pyD e) = true := by
  have h := Bool.and_eq_true_iff.mp hs
  have o1 := (Bool.and_eq_true_iff.mp h.1).1
  have o2 := (Bool.and_eq_true_iff.mp h.2).1
  subst hk
  exact ⟨Rep.dp d x o1 h1, Rep.dp e y o2 h2, shD_shaped h.1, shD_shaped h.2⟩
theorem eq_cases (neg : Bool) (hk : F.K = X.K) {x y : V} {H : Hp} {Q : VK} (h : rP2 F (eqDS neg) x y H Q) : rLL neg x y H Q ∨ rTT neg X.K x y H Q ∨ ∃ d e, Dp X.K H x d ∧ Dp X.K H y e ∧ SeqAt.shaped d = true ∧ SeqAt.shaped e = true ∧ Q (.bl (neg != PyData.eqv d e)) H := by
  obtain ⟨μ, S, d, e, rel, hd, he, p⟩ := h
  unfold eqDS at p
  split at p
  · rename_i a b ea eb
    obtain ⟨p1, vs, rfl, q1, r1⟩ := listOf_rep rel hd ea
    obtain ⟨p2, us, rfl, q2, r2⟩ := listOf_rep rel he eb
    split at p
    · rename_i hne
      refine .inl ⟨p1, p2, vs, us, rfl, rfl, q1, q2, ?_, p.here rel rfl⟩
      rw [r1.length, r2.length]; exact hne
    · split at p
      · rename_i hs
        have h := Bool.and_eq_true_iff.mp hs
        have o1 := (Bool.and_eq_true_iff.mp h.1).1
        have o2 := (Bool.and_eq_true_iff.mp h.2).1
        refine .inr (.inr ⟨_, _, .lst (SqL.of q1) (hk ▸ RepL.dp a vs o1 r1), .lst (SqL.of q2) (hk ▸ RepL.dp b us o2 r2), shD_shaped h.1, shD_shaped h.2, p.here rel rfl⟩)
      · exact p.elim
  · split at p
    · rename_i a b
      split at p
      · rename_i hne
        obtain ⟨p1, vs, rfl, q1, r1⟩ := hd.seqT
        obtain ⟨p2, us, rfl, q2, r2⟩ := he.seqT
        refine .inr (.inl ⟨p1, p2, vs, us, rfl, rfl, hk ▸ q1, hk ▸ q2, ?_, ?_⟩)
        · rcases hne with z | z
          · left; exact List.eq_nil_of_length_eq_zero (by rw [r1.length, z]; rfl)
          · right; exact List.eq_nil_of_length_eq_zero (by rw [r2.length, z]; rfl)
        · rw [r1.length, r2.length]; exact p.here rel rfl
      · split at p
        · rename_i hs
          obtain ⟨a1, a2, a3, a4⟩ := repD X.K hk hd he hs
          exact .inr (.inr ⟨_, _, a1, a2, a3, a4, p.here rel rfl⟩)
        · exact p.elim
    · split at p
      · rename_i hs
        obtain ⟨a1, a2, a3, a4⟩ := repD X.K hk hd he hs
        exact .inr (.inr ⟨_, _, a1, a2, a3, a4, p.here rel rfl⟩)
      · exact p.elim
theorem op_eqS (hk : F.K = X.K) (hu : X.A.units + 64 < cLine) : OpR X (compareOp .Eq) (rP2 F (eqDS false)) :=
  OpR.imp ((op_eqLL hu).or ((op_eqTT hu).or (op_eqD hu))) fun x y H Q h => by
    rcases eq_cases false hk h with z | z | ⟨d, e, a1, a2, a3, a4, q⟩
    · exact .inl z
    · exact .inr (.inl z)
    · exact .inr (.inr ⟨d, e, a1, a2, a3, a4, by rw [bne_false] at q; exact q⟩)
theorem op_neS (hk : F.K = X.K) (hu : X.A.units + 64 < cLine) : OpR X (compareOp .NotEq) (rP2 F (eqDS true)) :=
  OpR.imp ((op_neLL hu).or ((op_neTT hu).or (op_neD hu))) fun x y H Q h => by
    rcases eq_cases true hk h with z | z | ⟨d, e, a1, a2, a3, a4, q⟩
    · exact .inl z
    · exact .inr (.inl z)
    · exact .inr (.inr ⟨d, e, a1, a2, a3, a4, by rw [bne_true] at q; exact q⟩)
end
end Ev
end
section
set_option Elab.async false
set_option linter.all false
set_option maxRecDepth 100000
set_option maxHeartbeats 4000000
set_option autoImplicit false
/-! Ev, part B2: arithmetic, order, in, subscripts. -/
namespace Ev
open PySem PySem.Spec PyProof.Rows L2

def boolI (b : Bool) : Int := if b then 1 else 0
def i2 (f : Int → Int → R D) : D → D → List O → R D
  | .int i, .int j, _ => f i j
  | _, _, _ => .bad

def addD : D → D → List O → R D
  | .int i, .int j, S => .ok (.int (i + j)) S
  | .str a, .str b, S => if a.length + b.length ≤ sizeLine then .ok (.str (a ++ b)) S else .bad
  | .tup a, .tup b, S => if a.length + b.length ≤ sizeLine then .ok (.tup (a ++ b)) S else .bad
  | x, y, S => match listOf S x, listOf S y with
    | some a, some b => if a.length + b.length ≤ sizeLine then .ok (.lst (a ++ b)) S else .bad
    | _, _ => .bad
def subD : D → D → List O → R D
  | .int i, .int j, S => .ok (.int (i - j)) S
  | _, _, _ => .bad
instance (i j : Int) : Decidable (CMul i j) := by unfold CMul; infer_instance
instance (i j : Int) : Decidable (CMulW i j) := by unfold CMulW; infer_instance
instance (i j : Int) : Decidable (CDivN i j) := by unfold CDivN; infer_instance
instance (i j : Int) : Decidable (CDivW i j) := by unfold CDivW; infer_instance
instance (i j : Int) : Decidable (CPow i j) := by unfold CPow; infer_instance
def repL {α : Type} (k : Nat) (xs : List α) : List α := (List.replicate k xs).flatten
def mulD : D → D → List O → R D
  | .int i, .int j, S => if CMul i j ∨ CMulW i j then .ok (.int (i * j)) S else .bad
  | .str a, .int k, S => if 0 ≤ k ∧ k ≤ 1000 ∧ a.length ≤ 1000 then .ok (.str (repL k.toNat a)) S else .bad
  | .tup a, .int k, S => if a ≠ [] ∧ 2 ≤ k ∧ k ≤ 1000 ∧ a.length ≤ 1000 then .ok (.tup (repL k.toNat a)) S else .bad
  | _, _, _ => .bad
def fdivD : D → D → List O → R D
  | .int i, .int j, S => if CDivN i j then .ok (.int (i.fdiv j)) S else if CDivW i j then .ok (.int (i / j)) S else .bad
  | _, _, _ => .bad
def modD : D → D → List O → R D
  | .int i, .int j, S => if j ≠ 0 then .ok (.int (i.fmod j)) S else .bad
  | _, _, _ => .bad
def powD : D → D → List O → R D
  | .int i, .int j, S => if CPow i j then .ok (.int (i ^ j.toNat)) S else .bad
  | _, _, _ => .bad
def shlD : D → D → List O → R D
  | .int i, .int j, S => if CPow i j then .ok (.int (i * 2 ^ j.toNat)) S else .bad
  | _, _, _ => .bad
def shrD : D → D → List O → R D
  | .int i, .int j, S => if 0 ≤ j then .ok (.int (i / 2 ^ j.toNat)) S else .bad
  | _, _, _ => .bad
def bitD (f : Int → Int → Int) : D → D → List O → R D
  | .int i, .int j, S => .ok (.int (f i j)) S
  | _, _, _ => .bad
@[simp] def binD : Operator → D → D → List O → R D
  | .Add => addD
  | .Sub => subD
  | .Mult => mulD
  | .FloorDiv => fdivD
  | .Mod => modD
  | .Pow => powD
  | .LShift => shlD
  | .RShift => shrD
  | .BitAnd => bitD Builtin.bitAnd
  | .BitOr => bitD Builtin.bitOr
  | .BitXor => bitD Builtin.bitXor
  | _ => fun _ _ _ => .bad

section
variable {X : Cx} {F : Fx}
theorem op_ints {f : Value → Value → Sem Value} {C : Int → Int → Prop} {g : Int → Int → V} {op : D → D → List O → R D} (h : OpR X f (rI C g))
    (i : ∀ x y H Q, rP2 F op x y H Q → ∃ i j, x = .int i ∧ y = .int j ∧ C i j ∧ Q (g i j) H) : OpR X f (rP2 F op) := OpR.imp h i
theorem rep_int {μ : Mu} {H : Hp} {i : Int} {x : V} (h : Rep F μ H (.int i) x) : x = .int i := h
theorem op_bit {f : Value → Value → Sem Value} {g : Int → Int → Int} (h : OpR X f (rI0 fun i j => .int (g i j))) : OpR X f (rP2 F (bitD g)) :=
  OpR.imp h fun x y H Q q => by
    obtain ⟨μ, S, d, e, rel, hd, he, p⟩ := q
    unfold bitD at p
    split at p
    · cases rep_int hd; cases rep_int he
      exact ⟨_, _, rfl, rfl, p.here rel rfl⟩
    · exact p.elim
theorem op_subS : OpR X (binaryOp .Sub) (rP2 F subD) :=
  OpR.imp op_sub fun x y H Q q => by
    obtain ⟨μ, S, d, e, rel, hd, he, p⟩ := q
    unfold subD at p
    split at p
    · cases rep_int hd; cases rep_int he
      exact ⟨_, _, rfl, rfl, p.here rel rfl⟩
    · exact p.elim
theorem op_modS : OpR X (binaryOp .Mod) (rP2 F modD) :=
  OpR.imp op_modN fun x y H Q q => by
    obtain ⟨μ, S, d, e, rel, hd, he, p⟩ := q
    unfold modD at p
    split at p
    · cases rep_int hd; cases rep_int he
      split at p
      · rename_i h; exact ⟨_, _, rfl, rfl, h, p.here rel rfl⟩
      · exact p.elim
    · exact p.elim
theorem op_powS : OpR X (binaryOp .Pow) (rP2 F powD) :=
  OpR.imp op_pow fun x y H Q q => by
    obtain ⟨μ, S, d, e, rel, hd, he, p⟩ := q
    unfold powD at p
    split at p
    · cases rep_int hd; cases rep_int he
      split at p
      · rename_i h; exact ⟨_, _, rfl, rfl, h, p.here rel rfl⟩
      · exact p.elim
    · exact p.elim
theorem op_shlS : OpR X (binaryOp .LShift) (rP2 F shlD) :=
  OpR.imp op_shl fun x y H Q q => by
    obtain ⟨μ, S, d, e, rel, hd, he, p⟩ := q
    unfold shlD at p
    split at p
    · cases rep_int hd; cases rep_int he
      split at p
      · rename_i h; exact ⟨_, _, rfl, rfl, h, p.here rel rfl⟩
      · exact p.elim
    · exact p.elim
theorem op_shrS : OpR X (binaryOp .RShift) (rP2 F shrD) :=
  OpR.imp op_shr fun x y H Q q => by
    obtain ⟨μ, S, d, e, rel, hd, he, p⟩ := q
    unfold shrD at p
    split at p
    · cases rep_int hd; cases rep_int he
      split at p
      · rename_i h; exact ⟨_, _, rfl, rfl, h, p.here rel rfl⟩
      · exact p.elim
    · exact p.elim
theorem op_fdivS : OpR X (binaryOp .FloorDiv) (rP2 F fdivD) :=
  OpR.imp (op_fdivN.or op_fdivW) fun x y H Q q => by
    obtain ⟨μ, S, d, e, rel, hd, he, p⟩ := q
    unfold fdivD at p
    split at p
    · cases rep_int hd; cases rep_int he
      split at p
      · rename_i h; exact .inl ⟨_, _, rfl, rfl, h, p.here rel rfl⟩
      · split at p
        · rename_i h; exact .inr ⟨_, _, rfl, rfl, h, p.here rel rfl⟩
        · exact p.elim
    · exact p.elim
theorem mkS_app (a b : List Nat) : mkS a ++ mkS b = mkS (a ++ b) := by
  show (⟨_⟩ : Str) = ⟨_⟩
  simp [mkS]
theorem mkS_len (a : List Nat) : (mkS a).length = a.length := by simp [mkS, Str.length]
theorem op_addS (hk : F.K = X.K) : OpR X (binaryOp .Add) (rP2 F addD) :=
  OpR.imp (op_add.or (op_add_str.or (op_catA.or op_cat))) fun x y H Q q => by
    obtain ⟨μ, S, d, e, rel, hd, he, p⟩ := q
    unfold addD at p
    split at p
    · cases rep_int hd; cases rep_int he
      exact .inl ⟨_, _, rfl, rfl, p.here rel rfl⟩
    · split at p
      · rename_i a b _ h
        cases (show _ = _ from hd); cases (show _ = _ from he)
        refine .inr (.inl ⟨_, _, rfl, rfl, by rw [mkS_len, mkS_len]; exact h, ?_⟩)
        rw [mkS_app]; exact p.here rel rfl
      · exact p.elim
    · split at p
      · rename_i a b h
        obtain ⟨p1, vs, rfl, q1, r1⟩ := hd.seqT
        obtain ⟨p2, us, rfl, q2, r2⟩ := he.seqT
        refine .inr (.inr (.inl ⟨p1, p2, vs, us, rfl, rfl, hk ▸ q1, hk ▸ q2, by rw [r1.length, r2.length]; exact h, fun e => ?_, fun _ e => ?_, fun _ _ => p.tup rel (r1.append r2)⟩))
        · have ea : a = [] := List.eq_nil_of_length_eq_zero (by rw [← r1.length, e]; rfl)
          subst ea
          exact p.here rel he
        · have eb : b = [] := List.eq_nil_of_length_eq_zero (by rw [← r2.length, e]; rfl)
          subst eb
          rw [List.append_nil] at p
          exact p.here rel hd
      · exact p.elim
    · split at p
      · rename_i a b ea eb
        obtain ⟨p1, vs, rfl, q1, r1⟩ := listOf_rep rel hd ea
        obtain ⟨p2, us, rfl, q2, r2⟩ := listOf_rep rel he eb
        split at p
        · rename_i h
          exact .inr (.inr (.inr ⟨p1, p2, vs, us, rfl, rfl, q1, q2, by rw [r1.length, r2.length]; exact h, p.lst rel (r1.append r2)⟩))
        · exact p.elim
      · exact p.elim
theorem foldl_app {α : Type} (a : List α) : ∀ (k : Nat) (acc : List α), (List.replicate k a.toArray).foldl (· ++ ·) acc.toArray = (acc ++ repL k a).toArray
  | 0, acc => by simp [repL]
  | k + 1, acc => by
    rw [List.replicate_succ, List.foldl_cons]
    have e : acc.toArray ++ a.toArray = (acc ++ a).toArray := by simp
    rw [e, foldl_app a k (acc ++ a)]
    simp [repL, List.replicate_succ]
theorem repL_len {α : Type} (a : List α) : ∀ k : Nat, (repL k a).length = k * a.length
  | 0 => by simp [repL]
  | k + 1 => by
    have := repL_len a k
    simp only [repL, List.replicate_succ, List.flatten_cons, List.length_append] at this ⊢
    rw [this, Nat.succ_mul]; omega
def rMulS : R2 := fun x y H Q => ∃ (a : List Nat) (k : Int), x = .str (mkS a) ∧ y = .int k ∧ 0 ≤ k ∧ k ≤ 1000 ∧ a.length ≤ 1000 ∧ Q (.str (mkS (repL k.toNat a))) H
theorem op_mulStr : OpR X (binaryOp .Mult) rMulS := by
  intro pins s σ H x y v u Q I rx ry h
  obtain ⟨a, k, rfl, rfl, h0, h1, h2, q⟩ := h
  obtain ⟨t, rfl⟩ := rx
  obtain ⟨t', rfl⟩ := ry
  have hmul : a.length * k.toNat ≤ 1000 * 1000 := Nat.mul_le_mul h2 (by omega)
  refine PySem.P.mul_str ?_ (fun hn _ => ?_) (fun hn _ => ?_) ?_
  · rw [decide_eq_false (by omega), decide_eq_false (by omega)]; rfl
  · rw [mkS_len]
    have hk : 0 < k := by omega
    have : ((1000 : Nat) : Int) ≤ (2 ^ 63 - 1) / k := by
      rw [Int.le_ediv_iff_mul_le hk]
      calc ((1000 : Nat) : Int) * k ≤ 1000 * 1000 := by omega
        _ ≤ 2 ^ 63 - 1 := by decide
    omega
  · rw [mkS_len]
    unfold Builtin.Str.tooLong
    refine decide_eq_false ?_
    rw [sizeLine_eq]; omega
  · by_cases hk : k < 1
    · have : k = 0 := by omega
      subst this
      rw [if_pos hk]
      refine ⟨by decide, .str _, H, I.tok _, ⟨_, rfl⟩, ?_⟩
      have e : repL (0 : Int).toNat a = [] := by simp [repL]
      rw [e] at q; exact q
    · rw [if_neg hk]
      by_cases h3 : (k == 1 || (mkS a).length == 0) = true
      · rw [if_pos h3]
        refine ⟨.str _, H, I, ⟨_, rfl⟩, ?_⟩
        have e : repL k.toNat a = a := by
          rw [Bool.or_eq_true] at h3
          rcases h3 with h3 | h3
          · have : k = 1 := by simpa using h3
            subst this; simp [repL]
          · have : a = [] := by simpa [mkS_len] using h3
            subst this; simp [repL]
        rw [e] at q; exact q
      · rw [if_neg h3]
        have e := foldl_app a k.toNat []
        refine ⟨?_, .str _, H, I.tok _, ⟨_, rfl⟩, ?_⟩
        · show Str.length ⟨_⟩ ≤ sizeLine
          rw [show (#[] : Array Nat) = ([] : List Nat).toArray from rfl, e, List.nil_append]
          have := mkS_len (repL k.toNat a)
          rw [show Str.length ⟨(repL k.toNat a).toArray⟩ = (repL k.toNat a).length from this, repL_len, sizeLine_eq, Nat.mul_comm]; omega
        · show Q (.str ⟨_⟩) H
          rw [show (#[] : Array Nat) = ([] : List Nat).toArray from rfl, e, List.nil_append]
          exact q
end
end Ev
end
section
set_option Elab.async false
set_option linter.all false
set_option maxRecDepth 100000
set_option maxHeartbeats 4000000
set_option autoImplicit false
/-! Ev, part B3: order, in, is, dicts, subscripts, truth. -/
namespace Ev
open PySem PySem.Spec PyProof.Rows L2

/-! ### order -/
def ordD (f : Int → Int → Bool) : D → D → List O → R D
  | .int i, .int j, S => .ok (.bl (f i j)) S
  | _, _, _ => .bad
def ltD : D → D → List O → R D
  | .int i, .int j, S => .ok (.bl (decide (i < j))) S
  | .str a, .str b, S => .ok (.bl (decide (a < b))) S
  | _, _, _ => .bad
/-! ### is None -/
def isD (neg : Bool) : D → D → List O → R D
  | .non, .non, S => .ok (.bl (neg != true)) S
  | _, .non, S => .ok (.bl (neg != false)) S
  | _, _, _ => .bad
/-! ### keys, dicts -/
def keyD : D → Option Key
  | .int i => some (.inl i)
  | .str cs => some (.inr (mkS cs))
  | _ => none
def keysD : List D → Option (List Key)
  | [] => some []
  | d :: ds => match keyD d, keysD ds with
    | some k, some ks => some (k :: ks)
    | _, _ => none
def keyT : D → Option (List Key)
  | .tup ds => keysD ds
  | _ => none
def lookK {κ : Type} [DecidableEq κ] : List κ → List D → κ → Option D
  | a :: as, b :: bs, k => if a = k then some b else lookK as bs k
  | _, _, _ => none
def setK {κ : Type} [DecidableEq κ] : List κ → List D → κ → D → List D
  | a :: as, b :: bs, k, d => if a = k then d :: setK as bs k d else b :: setK as bs k d
  | _, _, _, _ => []
def putKs {κ : Type} [DecidableEq κ] (ks : List κ) (k : κ) : List κ := if k ∈ ks then ks else ks ++ [k]
def putVs {κ : Type} [DecidableEq κ] (ks : List κ) (vs : List D) (k : κ) (d : D) : List D := if k ∈ ks then setK ks vs k d else vs ++ [d]

def dkOf (S : List O) : D → Option (List Key × List D)
  | .dk ks vs => some (ks, vs)
  | .ref n => (match S[n]? with
    | some (.dK ks vs) => some (ks, vs)
    | _ => none)
  | _ => none
def dtOf (S : List O) : D → Option (List (List Key) × List D)
  | .dt ks vs => some (ks, vs)
  | .ref n => (match S[n]? with
    | some (.dT ks vs) => some (ks, vs)
    | _ => none)
  | _ => none
/-- what a dict holds at a key: none: no dict, or no key of its kind -/
def dGet (S : List O) (d k : D) : Option (Option D) :=
  match dkOf S d with
  | some (ks, vs) => (keyD k).map fun q => lookK ks vs q
  | none => match dtOf S d with
    | some (ks, vs) => (keyT k).map fun q => lookK ks vs q
    | none => none

section
variable {F : Fx} {μ : Mu} {H : Hp} {S : List O} {d k : D} {v x : V}
theorem keyD_rep {q : Key} (h : Rep F μ H k x) (e : keyD k = some q) : x = kV q := by
  unfold keyD at e
  split at e
  · cases e; exact h
  · cases e; exact h
  · cases e
theorem keysD_rep : ∀ {ds : List D} {vs : List V} {q : List Key}, RepL F μ H ds vs → keysD ds = some q → vs = q.map kV
  | [], _, _, h, e => by cases e; exact h
  | d :: ds, _, _, h, e => by
    obtain ⟨v, r, rfl, h1, h2⟩ := h
    unfold keysD at e
    split at e
    · rename_i a b e1 e2
      cases e
      rw [keyD_rep h1 e1, keysD_rep h2 e2]; rfl
    · cases e
theorem keyT_rep {q : List Key} (h : Rep F μ H k x) (e : keyT k = some q) : ∃ b, x = .ref b ∧ H b = some (.tup (q.map kV)) := by
  unfold keyT at e
  split at e
  · obtain ⟨a, vs, rfl, q1, r⟩ := h
    rw [keysD_rep r e] at q1
    exact ⟨a, rfl, q1.2⟩
  · cases e
theorem dkOf_rep {ks : List Key} {vs : List D} (rel : Rel F μ S H) (h : Rep F μ H d v) (e : dkOf S d = some (ks, vs)) : ∃ a us, v = .ref a ∧ H a = some (.dK (ks.zip us)) ∧ ks.length = vs.length ∧ RepL F μ H vs us := by
  unfold dkOf at e
  split at e
  · cases e
    obtain ⟨a, us, rfl, _, q, l, r⟩ := h
    exact ⟨a, us, rfl, q, l, r⟩
  · rename_i n
    obtain ⟨a, rfl, hm⟩ := h
    split at e
    · rename_i hn
      cases e
      obtain ⟨us, q, l, r⟩ := rel.obj n _ a hn hm
      exact ⟨a, us, rfl, q, l, r⟩
    · cases e
  · cases e
theorem dtOf_rep {ks : List (List Key)} {vs : List D} (rel : Rel F μ S H) (h : Rep F μ H d v) (e : dtOf S d = some (ks, vs)) : ∃ a us, v = .ref a ∧ H a = some (.dT (ks.zip us)) ∧ ks.length = vs.length ∧ RepL F μ H vs us := by
  unfold dtOf at e
  split at e
  · cases e
    obtain ⟨a, us, rfl, _, q, l, r⟩ := h
    exact ⟨a, us, rfl, q, l, r⟩
  · rename_i n
    obtain ⟨a, rfl, hm⟩ := h
    split at e
    · rename_i hn
      cases e
      obtain ⟨us, q, l, r⟩ := rel.obj n _ a hn hm
      exact ⟨a, us, rfl, q, l, r⟩
    · cases e
  · cases e
theorem lookK_rep {κ : Type} [DecidableEq κ] : ∀ {ks : List κ} {vs : List D} {us : List V} (k : κ), RepL F μ H vs us →
    (lookK ks vs k = none → valV (ks.zip us) k = none) ∧ ∀ d, lookK ks vs k = some d → ∃ u, valV (ks.zip us) k = some u ∧ Rep F μ H d u
  | [], _, _, k, _ => ⟨fun _ => rfl, fun d e => by simp [lookK] at e⟩
  | a :: as, [], us, k, h => by
    cases (show _ = _ from h)
    exact ⟨fun _ => rfl, fun d e => by simp [lookK] at e⟩
  | a :: as, b :: bs, us, k, h => by
    obtain ⟨v, r, rfl, h1, h2⟩ := h
    have ih := lookK_rep (ks := as) k h2
    rw [List.zip_cons_cons]
    unfold lookK
    by_cases e : a = k
    · rw [if_pos e, valV_pos e]
      exact ⟨fun z => (by cases z), fun d z => (by cases z; exact ⟨v, rfl, h1⟩)⟩
    · rw [if_neg e, valV_neg e]
      exact ih
theorem dGet_rep {o : Option D} (rel : Rel F μ S H) (h : Rep F μ H d v) (hx : Rep F μ H k x) (e : dGet S d k = some o) :
    ∃ a ov, v = .ref a ∧ DGet H a x ov ∧ IsD H a ∧ (o = none → ov = none) ∧ ∀ w, o = some w → ∃ u, ov = some u ∧ Rep F μ H w u := by
  unfold dGet at e
  split at e
  · rename_i ks vs ed
    obtain ⟨a, us, rfl, q, l, r⟩ := dkOf_rep rel h ed
    obtain ⟨kk, ek, e⟩ := Option.map_eq_some_iff.mp e
    subst e
    cases keyD_rep hx ek
    obtain ⟨l1, l2⟩ := lookK_rep (ks := ks) kk r
    exact ⟨a, _, rfl, DGet.k q, .inl ⟨_, .inl q⟩, l1, l2⟩
  · split at e
    · rename_i ks vs ed
      obtain ⟨a, us, rfl, q, l, r⟩ := dtOf_rep rel h ed
      obtain ⟨kk, ek, e⟩ := Option.map_eq_some_iff.mp e
      subst e
      obtain ⟨b, rfl, hb⟩ := keyT_rep hx ek
      obtain ⟨l1, l2⟩ := lookK_rep (ks := ks) kk r
      exact ⟨a, _, rfl, DGet.t q hb, .inr ⟨_, .inl q⟩, l1, l2⟩
    · cases e
theorem mem_zip_any {κ : Type} [DecidableEq κ] : ∀ (ks : List κ) (us : List V) (k : κ), ks.length = us.length → ((ks.zip us).any fun kv => decide (kv.1 = k)) = decide (k ∈ ks)
  | [], _, k, _ => by simp
  | a :: as, [], k, h => by simp at h
  | a :: as, u :: us, k, h => by
    rw [List.zip_cons_cons, List.any_cons, mem_zip_any as us k (by simpa using h)]
    by_cases e : a = k
    · simp [e]
    · have : ¬ k = a := fun z => e z.symm
      simp [e, this]
theorem setK_len {κ : Type} [DecidableEq κ] : ∀ (ks : List κ) (vs : List D) (k : κ) (d : D), ks.length = vs.length → (setK ks vs k d).length = vs.length
  | [], [], _, _, _ => rfl
  | [], _ :: _, _, _, h => by simp at h
  | _ :: _, [], _, _, h => by simp at h
  | a :: as, b :: bs, k, d, h => by
    unfold setK
    have := setK_len as bs k d (by simpa using h)
    split <;> simp [this]
theorem setK_rep {κ : Type} [DecidableEq κ] : ∀ {ks : List κ} {vs : List D} {us : List V} {k : κ} {d : D} {u : V}, RepL F μ H vs us → ks.length = vs.length → Rep F μ H d u →
    ∃ ws, RepL F μ H (setK ks vs k d) ws ∧ (ks.zip us).map (fun kv => if kv.1 = k then (kv.1, u) else kv) = ks.zip ws
  | [], [], us, k, d, u, h, _, _ => by
    cases (show _ = _ from h); exact ⟨[], rfl, rfl⟩
  | [], _ :: _, _, _, _, _, _, h, _ => by simp at h
  | _ :: _, [], _, _, _, _, _, h, _ => by simp at h
  | a :: as, b :: bs, us, k, d, u, h, hl, hd => by
    obtain ⟨v, r, rfl, h1, h2⟩ := h
    obtain ⟨ws, r1, e1⟩ := setK_rep (ks := as) (k := k) h2 (by simpa using hl) hd
    unfold setK
    rw [List.zip_cons_cons, List.map_cons, e1]
    by_cases e : a = k
    · rw [if_pos e]
      refine ⟨u :: ws, ⟨u, ws, rfl, hd, r1⟩, ?_⟩
      simp [e]
    · rw [if_neg e]
      refine ⟨v :: ws, ⟨v, ws, rfl, h1, r1⟩, ?_⟩
      simp [e]
theorem putK_rep {κ : Type} [DecidableEq κ] {ks : List κ} {vs : List D} {us : List V} {k : κ} {d : D} {u : V} (r : RepL F μ H vs us) (l : ks.length = vs.length) (hd : Rep F μ H d u) :
    ∃ ws, RepL F μ H (putVs ks vs k d) ws ∧ putK (ks.zip us) k u = (putKs ks k).zip ws ∧ (putKs ks k).length = (putVs ks vs k d).length := by
  have lu := r.length
  unfold putK putKs putVs
  rw [mem_zip_any ks us k (by omega)]
  by_cases h : k ∈ ks
  · rw [if_pos h, if_pos h, if_pos (decide_eq_true h)]
    obtain ⟨ws, r1, e1⟩ := setK_rep (ks := ks) (k := k) r l hd
    exact ⟨ws, r1, e1, by rw [setK_len ks vs k d l]; exact l⟩
  · rw [if_neg h, if_neg h, if_neg (by simpa using h)]
    refine ⟨us ++ [u], r.snoc hd, ?_, by simp [l]⟩
    rw [List.zip_append (by omega)]; rfl
end

/-! ### in -/
def strIn (a b : List Nat) : Bool := !(Builtin.Str.occurrences (mkS b) (mkS a) 0 (mkS b).length 1).isEmpty
def inDS (neg : Bool) (x y : D) (S : List O) : R D :=
  match y with
  | .str b => (match x with
    | .str a => .ok (.bl (neg != strIn a b)) S
    | _ => .bad)
  | y => match seqOf S y with
    | some ds => if shD x && shD (.tup ds) then .ok (.bl (neg != ds.any fun z => eqD z x)) S else .bad
    | none => match dGet S y x with
      | some o => .ok (.bl (neg != o.isSome)) S
      | none => .bad
theorem pyL_map : ∀ ds : List D, pyL ds = ds.map pyD
  | [] => rfl
  | d :: ds => by show pyD d :: pyL ds = _; rw [pyL_map ds]; rfl
theorem any_py (x : D) (ds : List D) : (pyL ds).any (fun z => PyData.eqv z (pyD x)) = ds.any fun z => eqD z x := by
  rw [pyL_map, List.any_map]; rfl

section
variable {X : Cx} {F : Fx}
theorem op_ordS {op : CmpOp} {f : Int → Int → Bool} (h : OpR X (compareOp op) (rI0 fun i j => .bl (f i j))) : OpR X (compareOp op) (rP2 F (ordD f)) :=
  OpR.imp h fun x y H Q q => by
    obtain ⟨μ, S, d, e, rel, hd, he, p⟩ := q
    unfold ordD at p
    split at p
    · cases rep_int hd; cases rep_int he
      exact ⟨_, _, rfl, rfl, p.here rel rfl⟩
    · exact p.elim
theorem op_ltS : OpR X (compareOp .Lt) (rP2 F ltD) :=
  OpR.imp (op_lt.or op_lt_str) fun x y H Q q => by
    obtain ⟨μ, S, d, e, rel, hd, he, p⟩ := q
    unfold ltD at p
    split at p
    · cases rep_int hd; cases rep_int he
      exact .inl ⟨_, _, rfl, rfl, p.here rel rfl⟩
    · cases (show _ = _ from hd); cases (show _ = _ from he)
      exact .inr ⟨_, _, rfl, rfl, p.here rel rfl⟩
    · exact p.elim
def isNonD : D → Bool
  | .non => true
  | _ => false
theorem Rep.isNon {μ : Mu} {H : Hp} {d : D} {x : V} (h : Rep F μ H d x) : decide (x = .non) = isNonD d := by
  cases d with
  | non => cases (show _ = _ from h); rfl
  | bl b => cases (show _ = _ from h); rfl
  | int i => cases (show _ = _ from h); rfl
  | str cs => cases (show _ = _ from h); rfl
  | tup ds => obtain ⟨a, vs, rfl, _⟩ := h; rfl
  | lst ds => obtain ⟨a, vs, rfl, _⟩ := h; rfl
  | fl ds => obtain ⟨a, vs, rfl, _⟩ := h; rfl
  | ft ds => obtain ⟨a, vs, rfl, _⟩ := h; rfl
  | dk ks ds => obtain ⟨a, vs, rfl, _⟩ := h; rfl
  | dt ks ds => obtain ⟨a, vs, rfl, _⟩ := h; rfl
  | ins C fs ds => obtain ⟨a, dx, vs, rfl, _⟩ := h; rfl
  | ref n => obtain ⟨a, rfl, _⟩ := h; rfl
  | cls x => cases (show _ = _ from h); rfl
theorem is_cases (neg : Bool) {x y : V} {H : Hp} {Q : VK} (h : rP2 F (isD neg) x y H Q) : y = .non ∧ Q (.bl (neg != decide (x = .non))) H := by
  obtain ⟨μ, S, d, e, rel, hd, he, p⟩ := h
  unfold isD at p
  split at p
  · cases (show _ = _ from hd); cases (show _ = _ from he)
    exact ⟨rfl, p.here rel rfl⟩
  · rename_i hz
    refine ⟨he, ?_⟩
    rw [hd.isNon]
    have e : isNonD d = false := by
      cases d <;> first | rfl | exact (hz rfl).elim
    rw [e]; exact p.here rel rfl
  · exact p.elim
theorem op_isS : OpR X (compareOp .Is) (rP2 F (isD false)) := OpR.imp op_isN fun x y H Q h => by
  obtain ⟨h1, h2⟩ := is_cases false h
  rw [bne_false] at h2; exact ⟨h1, h2⟩
theorem op_isnS : OpR X (compareOp .IsNot) (rP2 F (isD true)) := OpR.imp op_notN fun x y H Q h => by
  obtain ⟨h1, h2⟩ := is_cases true h
  rw [bne_true] at h2; exact ⟨h1, h2⟩
theorem room_in2 {d : D} {ds : PyData} (h : shD d = true) (hu : X.A.units + 64 < cLine) : X.A.units + 1 + min (PyData.depthAll (match ds with | .tuple xs => xs | _ => [])) (pyD d).depth < cLine := by
  have := of_decide_eq_true (Bool.and_eq_true_iff.mp h).2
  have := Nat.min_le_right (PyData.depthAll (match ds with | .tuple xs => xs | _ => [])) (pyD d).depth
  omega
theorem room_in3 {d : D} (n : Nat) (h : shD d = true) (hu : X.A.units + 64 < cLine) : X.A.units + 1 + min n (pyD d).depth < cLine := by
  have := of_decide_eq_true (Bool.and_eq_true_iff.mp h).2
  have := Nat.min_le_right n (pyD d).depth
  omega
theorem op_inS (hk : F.K = X.K) (hu : X.A.units + 64 < cLine) : OpR X (compareOp .In) (rP2 F (inDS false)) := by
  intro pins s σ H x y v u Q I rx ry h
  obtain ⟨μ, S, d, e, rel, hd, he, p⟩ := h
  unfold inDS at p
  split at p
  · split at p
    · cases (show _ = _ from hd); cases (show _ = _ from he)
      exact op_in_str pins s σ H _ _ v u Q I rx ry ⟨_, _, rfl, rfl, by have := p.here rel rfl; rw [bne_false] at this; exact this⟩
    · exact p.elim
  · split at p
    · rename_i ds eds
      obtain ⟨a, vs, rfl, q, r⟩ := seqOf_rep rel he eds
      split at p
      · rename_i hs
        have hs := Bool.and_eq_true_iff.mp hs
        have o1 := (Bool.and_eq_true_iff.mp hs.1).1
        have o2 : okL ds = true := (Bool.and_eq_true_iff.mp hs.2).1
        have hQ : Q (.bl ((pyL ds).any fun z => PyData.eqv z (pyD d))) H := by
          rw [any_py]; have := p.here rel rfl; rw [bne_false] at this; exact this
        obtain ⟨as, r1⟩ := Dp.reads I _ x v (hk ▸ Rep.dp d x o1 hd) rx
        rcases q with q | q
        · obtain ⟨bs, r2⟩ := Dp.reads I (.list (pyL ds)) _ u (.lst (hk ▸ q) (hk ▸ RepL.dp ds vs o2 r)) ry
          exact SeqAt.in_list_reads r2 r1 (okL_lay ds o2) (okD_lay d o1) (room_in3 _ hs.1 hu) ⟨.bl _, H, I, rfl, hQ⟩
        · obtain ⟨bs, r2⟩ := Dp.reads I (.tuple (pyL ds)) _ u (.tup (hk ▸ q) (hk ▸ RepL.dp ds vs o2 r)) ry
          exact SeqAt.in_tuple_reads r2 r1 (okL_lay ds o2) (okD_lay d o1) (room_in3 _ hs.1 hu) ⟨.bl _, H, I, rfl, hQ⟩
      · exact p.elim
    · split at p
      · rename_i o eo
        obtain ⟨a, ov, rfl, g, _, n1, n2⟩ := dGet_rep rel he hd eo
        cases ry
        refine d_in (o := ov) (by omega) I g rx fun s' I' => ⟨.bl _, H, I', rfl, ?_⟩
        have e1 : ov.isSome = o.isSome := by
          cases o with
          | none => rw [n1 rfl]; rfl
          | some w => obtain ⟨u, e, _⟩ := n2 w rfl; rw [e]; rfl
        rw [e1]; have := p.here rel rfl; rw [bne_false] at this; exact this
      · exact p.elim
theorem op_ninS (hk : F.K = X.K) (hu : X.A.units + 64 < cLine) : OpR X (compareOp .NotIn) (rP2 F (inDS true)) := by
  intro pins s σ H x y v u Q I rx ry h
  obtain ⟨μ, S, d, e, rel, hd, he, p⟩ := h
  unfold inDS at p
  split at p
  · split at p
    · cases (show _ = _ from hd); cases (show _ = _ from he)
      exact op_notin_str pins s σ H _ _ v u Q I rx ry ⟨_, _, rfl, rfl, by have := p.here rel rfl; rw [bne_true] at this; exact this⟩
    · exact p.elim
  · split at p
    · rename_i ds eds
      obtain ⟨a, vs, rfl, q, r⟩ := seqOf_rep rel he eds
      split at p
      · rename_i hs
        have hs := Bool.and_eq_true_iff.mp hs
        have o1 := (Bool.and_eq_true_iff.mp hs.1).1
        have o2 : okL ds = true := (Bool.and_eq_true_iff.mp hs.2).1
        have hQ : Q (.bl (!(pyL ds).any fun z => PyData.eqv z (pyD d))) H := by
          rw [any_py]; have := p.here rel rfl; rw [bne_true] at this; exact this
        obtain ⟨as, r1⟩ := Dp.reads I _ x v (hk ▸ Rep.dp d x o1 hd) rx
        rcases q with q | q
        · obtain ⟨bs, r2⟩ := Dp.reads I (.list (pyL ds)) _ u (.lst (hk ▸ q) (hk ▸ RepL.dp ds vs o2 r)) ry
          exact SeqAt.notIn_list_reads r2 r1 (okL_lay ds o2) (okD_lay d o1) (room_in3 _ hs.1 hu) ⟨.bl _, H, I, rfl, hQ⟩
        · obtain ⟨bs, r2⟩ := Dp.reads I (.tuple (pyL ds)) _ u (.tup (hk ▸ q) (hk ▸ RepL.dp ds vs o2 r)) ry
          exact SeqAt.notIn_tuple_reads r2 r1 (okL_lay ds o2) (okD_lay d o1) (room_in3 _ hs.1 hu) ⟨.bl _, H, I, rfl, hQ⟩
      · exact p.elim
    · split at p
      · rename_i o eo
        obtain ⟨a, ov, rfl, g, _, n1, n2⟩ := dGet_rep rel he hd eo
        cases ry
        refine d_notIn (o := ov) (by omega) I g rx fun s' I' => ⟨.bl _, H, I', rfl, ?_⟩
        have e1 : ov.isSome = o.isSome := by
          cases o with
          | none => rw [n1 rfl]; rfl
          | some w => obtain ⟨u, e, _⟩ := n2 w rfl; rw [e]; rfl
        rw [e1]; have := p.here rel rfl; rw [bne_true] at this; exact this
      · exact p.elim
@[simp] def cmpD : CmpOp → D → D → List O → R D
  | .Eq => eqDS false
  | .NotEq => eqDS true
  | .Lt => ltD
  | .LtE => ordD fun i j => decide (i ≤ j)
  | .Gt => ordD fun i j => decide (j < i)
  | .GtE => ordD fun i j => decide (j ≤ i)
  | .Is => isD false
  | .IsNot => isD true
  | .In => inDS false
  | .NotIn => inDS true
theorem op_cmpS (hk : F.K = X.K) (hu : X.A.units + 64 < cLine) : ∀ op, OpR X (compareOp op) (rP2 F (cmpD op))
  | .Eq => op_eqS hk hu
  | .NotEq => op_neS hk hu
  | .Lt => op_ltS
  | .LtE => op_ordS op_le
  | .Gt => op_ordS op_gt
  | .GtE => op_ordS op_ge
  | .Is => op_isS
  | .IsNot => op_isnS
  | .In => op_inS hk hu
  | .NotIn => op_ninS hk hu
theorem op_mulS (hk : F.K = X.K) : OpR X (binaryOp .Mult) (rP2 F mulD) := by
  have h := (op_mul (X := X)).or (op_mulW.or (op_mulStr.or op_repT))
  intro pins s σ H x y v u Q I rx ry q
  obtain ⟨μ, S, d, e, rel, hd, he, p⟩ := q
  unfold mulD at p
  split at p
  · cases rep_int hd; cases rep_int he
    split at p
    · rename_i hh
      rcases hh with hh | hh
      · exact h pins s σ H _ _ v u Q I rx ry (.inl ⟨_, _, rfl, rfl, hh, p.here rel rfl⟩)
      · exact h pins s σ H _ _ v u Q I rx ry (.inr (.inl ⟨_, _, rfl, rfl, hh, p.here rel rfl⟩))
    · exact p.elim
  · cases (show _ = _ from hd); cases rep_int he
    split at p
    · rename_i hh
      exact h pins s σ H _ _ v u Q I rx ry (.inr (.inr (.inl ⟨_, _, rfl, rfl, hh.1, hh.2.1, hh.2.2, p.here rel rfl⟩)))
    · exact p.elim
  · cases rep_int he
    split at p
    · rename_i a k hh
      obtain ⟨p1, vs, rfl, q1, r1⟩ := hd.seqT
      refine h pins s σ H _ _ v u Q I rx ry (.inr (.inr (.inr ⟨_, _, vs, rfl, rfl, hk ▸ q1, fun z => hh.1 ?_, hh.2.1, hh.2.2.1, by rw [r1.length]; exact hh.2.2.2, ?_⟩)))
      · exact List.eq_nil_of_length_eq_zero (by rw [← r1.length, z]; rfl)
      · refine p.tup rel ?_
        have rr : ∀ n : Nat, RepL F μ H (repL n a) (List.replicate n vs).flatten := fun n => by
          induction n with
          | zero => exact rfl
          | succ n ih => simp only [repL, List.replicate_succ, List.flatten_cons]; exact r1.append ih
        exact rr _
    · exact p.elim
  · exact p.elim
theorem op_binS (hk : F.K = X.K) : ∀ op, OpR X (binaryOp op) (rP2 F (binD op))
  | .Add => op_addS hk
  | .Sub => op_subS
  | .Mult => op_mulS hk
  | .FloorDiv => op_fdivS
  | .Mod => op_modS
  | .Pow => op_powS
  | .LShift => op_shlS
  | .RShift => op_shrS
  | .BitAnd => op_bit op_and
  | .BitOr => op_bit op_or
  | .BitXor => op_bit op_xor
  | .MatMult => fun _ _ _ _ _ _ _ _ _ _ _ _ h => by obtain ⟨μ, S, d, e, rel, hd, he, p⟩ := h; exact p.elim
  | .Div => fun _ _ _ _ _ _ _ _ _ _ _ _ h => by obtain ⟨μ, S, d, e, rel, hd, he, p⟩ := h; exact p.elim
end
end Ev
end
section
set_option Elab.async false
set_option linter.all false
set_option maxRecDepth 100000
set_option maxHeartbeats 4000000
set_option autoImplicit false
/-! Ev, part B3b: int(t, 2), turned from the rule for int(t, 16). -/
namespace Ev
open PySem PySem.Spec PyProof.Rows L2

def bitsV (cs : List Nat) : Nat := cs.foldl (fun a c => a * 2 + (c - 48)) 0
def binB (cs : List Nat) : Bool := cs.all fun c => decide (48 ≤ c ∧ c ≤ 49)
namespace Bx
open PySem.NumText PySem.Calls
def Is (c : Nat) : Prop := 48 ≤ c ∧ c ≤ 49
theorem digit_b {c : Nat} (h : Is c) : digit? c = some (c - 48) := by
  unfold Is at h
  unfold digit?
  rw [if_pos (L2.Hx.bb (show 48 ≤ c from h.1) (show c ≤ 57 by omega))]
theorem step_b {ds : Array Nat} {b : Bool} {c : Nat} (h : Is c) : PySem.NumText.step 2 (ds, b) c = some (ds.push (c - 48), true) := by
  unfold PySem.NumText.step
  rw [if_neg (by rw [beq_iff_eq]; unfold Is at h; omega), digit_b h]
  exact if_pos (by unfold Is at h; omega)
theorem foldl_b : ∀ (cs : List Nat) (ds : Array Nat), (∀ c ∈ cs, Is c) → cs.foldlM (PySem.NumText.step 2) (ds, true) = some (cs.foldl (fun acc c => acc.push (c - 48)) ds, true)
  | [], _, _ => rfl
  | c :: cs, ds, h => by
    rw [List.foldlM_cons, step_b (h c (List.mem_cons_self ..))]
    show cs.foldlM (PySem.NumText.step 2) (ds.push (c - 48), true) = _
    exact foldl_b cs (ds.push (c - 48)) fun d hd => h d (List.mem_cons_of_mem _ hd)
theorem digits_b {cs : List Nat} (h : ∀ c ∈ cs, Is c) (hne : cs ≠ []) : digits? 2 cs = some (cs.foldl (fun acc c => acc.push (c - 48)) #[]) := by
  cases cs with
  | nil => exact absurd rfl hne
  | cons c cs =>
    unfold digits?
    rw [List.foldlM_cons, step_b (h c (List.mem_cons_self ..))]
    show (cs.foldlM (PySem.NumText.step 2) ((#[] : Array Nat).push (c - 48), true)).bind _ = _
    rw [foldl_b cs _ fun d hd => h d (List.mem_cons_of_mem _ hd)]
    rfl
theorem push_b : ∀ (cs : List Nat) (ds : Array Nat), (cs.foldl (fun acc c => acc.push (c - 48)) ds).foldl (fun acc d => acc * 2 + d) 0 = cs.foldl (fun a c => a * 2 + (c - 48)) (ds.foldl (fun acc d => acc * 2 + d) 0)
  | [], _ => rfl
  | c :: cs, ds => by
    rw [List.foldl_cons, push_b cs (ds.push (c - 48)), List.foldl_cons]
    congr 1
    simp
theorem dropB {cs : List Nat} (h : ∀ c ∈ cs, Is c) : cs.dropWhile blank = cs := by
  cases cs with
  | nil => rfl
  | cons c cs => exact dropWhile_of (by have := h c (List.mem_cons_self ..); unfold Is at this; omega)
theorem signB {cs : List Nat} (h : ∀ c ∈ cs, Is c) : sign cs = (false, cs) := by
  cases cs with
  | nil => rfl
  | cons c cs =>
    have := h c (List.mem_cons_self ..)
    unfold Is at this
    exact sign_of (by omega) (by omega)
theorem basedB {cs : List Nat} (h : ∀ c ∈ cs, Is c) : based 2 cs = (2, false, cs) := by
  have two : ∀ {c : Nat}, Is c → c = 48 ∨ c = 49 := fun {c} h => by unfold Is at h; omega
  match cs, h with
  | [], _ => rfl
  | [a], h =>
    rcases two (h a (List.mem_cons_self ..)) with rfl | rfl
    · rfl
    · rfl
  | a :: c :: r, h =>
    rcases two (h a (List.mem_cons_self ..)) with rfl | rfl
    · rcases two (h c (List.mem_cons_of_mem _ (List.mem_cons_self ..))) with rfl | rfl
      · rfl
      · rfl
    · rfl
theorem read_b {cs : List Nat} (h : ∀ c ∈ cs, Is c) (hne : cs ≠ []) : (int_private% "readNumeral") 0 2 cs = (int_private% "Numeral.value") ((bitsV cs : Nat) : Int) := by
  have hr : ∀ c ∈ cs.reverse, Is c := fun c hc => h c (List.mem_reverse.mp hc)
  refine (readNumeral_eq 0 2 cs).trans ?_
  rw [dropB h, signB h]
  show judge 0 false (based 2 cs).1 (based 2 cs).2.1 (digits? (based 2 cs).1 (((based 2 cs).2.2.reverse.dropWhile blank).reverse)) = _
  rw [basedB h]
  show judge 0 false 2 false (digits? 2 ((cs.reverse.dropWhile blank).reverse)) = _
  rw [dropB hr, List.reverse_reverse, digits_b h hne]
  show (int_private% "Numeral.value") (((cs.foldl (fun acc c => acc.push (c - 48)) (#[] : Array Nat)).foldl (fun acc d => acc * 2 + d) 0 : Nat) : Int) = _
  have z : (#[] : Array Nat).foldl (fun acc d => acc * 2 + d) 0 = 0 := by first | rfl | simp
  rw [push_b, z] <;> rfl
theorem seen_b {x : Str} (h : ∀ c ∈ x.cps.toList, Is c) : numTextOf x = x.cps.toList ∧ numSeenOf x = x.cps.toList := by
  have e1 : numTextOf x = x.cps.toList := by
    refine if_pos ?_
    rw [← Array.all_toList, List.all_eq_true]
    intro c hc
    have := h c hc
    unfold Is at this
    exact decide_eq_true (by omega)
  refine ⟨e1, ?_⟩
  show (numTextOf x).takeWhile _ = _
  rw [e1]
  refine takeWhile_all fun c hc => ?_
  have := h c hc
  unfold Is at this
  exact bne_iff_ne.mpr (by omega)
theorem gives_b {x : PySem.Str} {u t : Tok} (hl : x.length ≤ 640) (h : ∀ c ∈ x.cps.toList, Is c) (hne : x.cps.toList ≠ []) :
    Gives (Builtin.«int.__new__» ⟨[.type "int", .str x u, .int 2 t], []⟩) (.int ((bitsV x.cps.toList : Nat) : Int)) :=
  .of_wp fun M A E s Q hQ => by
    obtain ⟨hp, g, d, tk, os⟩ := s
    have f1 := F.conv_sub_int
    have f2 := F.madeHere_int
    have f6 : typeOf (.str x u) = pure (.type "str") := rfl
    obtain ⟨e1, e2⟩ := seen_b h
    have hs : (numSeenOf x).length ≤ 640 := by
      rw [e2, Array.length_toList]
      exact hl
    have hr : (int_private% "readNumeral") 0 2 (numSeenOf x) = (int_private% "Numeral.value") ((bitsV x.cps.toList : Nat) : Int) := by
      rw [e2]
      exact read_b h hne
    have ha : ((numSeenOf x).length == (numTextOf x).length) = true := by
      rw [e1, e2]
      exact beq_self_eq_true _
    have hk := L2.Hx.Hid.mk (And.intro hs (And.intro hr ha))
    clear hs hr ha e1 e2 hl hne h
    repeat (any_goals (first
      | assumption
      | ((with_reducible show wpAny _ _ ((int_private% "intFromText") _ _ _) _ _ _); refine L2.Hx.wp_textB hk.out.1 hk.out.2.1 hk.out.2.2 ?_)
      | wp_step))
    all_goals first | exact ⟨_, rfl, hQ⟩ | skip
theorem call_b {prog : Program} {w : World} {A : Around} {E : Value → Shared → Prop} {s : Shared} {Q : Value → Shared → Prop} {x : PySem.Str} {u t : Tok} (hl : x.length ≤ 640) (h : ∀ c ∈ x.cps.toList, Is c) (hne : x.cps.toList ≠ [])
    (hQ : Q (.int ((bitsV x.cps.toList : Nat) : Int) s.toks) { s with toks := s.toks + 1 }) : wpAny (model prog w) A (call (.type "int") [.str x u, .int 2 t]) Q E s :=
  callType_new F.called_int F.newNe_int (L2.Hx.typeCall_int_2 _ _) (L2.Hx.newCall_int_2 _ _) (fun obj => F.initArgs_range_2 obj _ _) F.entry_int_new (gives_b hl h hne).meets (show (Made.int ((bitsV x.cps.toList : Nat) : Int)).post _ s from ⟨rfl, hQ⟩)
end Bx
theorem call_int_b {X : Cx} : CallR X (.type "int") (fun xs H Q => ∃ l : List Nat, xs = [.str (mkS l), .int 2] ∧ l ≠ [] ∧ l.length ≤ 640 ∧ binB l = true ∧ Q (.int ((bitsV l : Nat) : Int)) H) := by
  intro pins s σ H xs us Q I r h
  obtain ⟨l, rfl, hne, hl, hx, q⟩ := h
  obtain ⟨u, w', rfl, r1, r2⟩ := vals2 r
  obtain ⟨t1, rfl⟩ := r1
  obtain ⟨t2, rfl⟩ := r2
  refine Bx.call_b (x := mkS l) (by show l.toArray.size ≤ 640; simpa using hl) (fun c hc => ?_) hne ⟨.int ((bitsV l : Nat) : Int), H, I.tok _, ⟨_, rfl⟩, q⟩
  have := of_decide_eq_true (List.all_eq_true.mp hx c hc)
  exact this
end Ev
end
section
set_option Elab.async false
set_option linter.all false
set_option maxRecDepth 100000
set_option maxHeartbeats 4000000
set_option autoImplicit false
/-! Ev, part B4: subscripts, stores, truth, built-in calls and methods. -/
namespace Ev
open PySem PySem.Spec PyProof.Rows L2

def idxD (x y : D) (S : List O) : R D :=
  match x, y with
  | .str cs, .int i => if cs.length ≤ sizeLine then (match atI cs i with
    | some c => .ok (.str [c]) S
    | none => .bad) else .bad
  | x, y => match seqOf S x with
    | some ds => (match y with
      | .int i => (match atI ds i with
        | some d => .ok d S
        | none => .bad)
      | _ => .bad)
    | none => match dGet S x y with
      | some (some w) => .ok w S
      | _ => .bad
def cutL {α : Type} (xs : List α) (lo hi : Option Int) : List α := (xs.drop (HT.sIx xs.length 0 lo)).take (HT.sIx xs.length xs.length hi - HT.sIx xs.length 0 lo)
def sliceD (x : D) (lo hi : Option Int) (S : List O) : R D :=
  match x with
  | .str cs => if cs.length ≤ sizeLine then .ok (.str (cutL cs lo hi)) S else .bad
  | .tup ds => .ok (.tup (cutL ds lo hi)) S
  | x => match rdL S x with
    | some ds => .ok (.lst (cutL ds lo hi)) S
    | none => .bad
def setD (x y w : D) (S : List O) : R Unit :=
  match x with
  | .ref n => (match S[n]? with
    | some (.lst ds) => (match y with
      | .int i => (match ixN ds.length i with
        | some j => .ok () (S.set n (.lst (ds.set j w)))
        | none => .bad)
      | _ => .bad)
    | some (.dK ks vs) => (match keyD y with
      | some k => if ks.length < sizeLine then .ok () (S.set n (.dK (putKs ks k) (putVs ks vs k w))) else .bad
      | none => .bad)
    | some (.dT ks vs) => (match keyT y with
      | some k => if ks.length < sizeLine then .ok () (S.set n (.dT (putKs ks k) (putVs ks vs k w))) else .bad
      | none => .bad)
    | _ => .bad)
  | _ => .bad
@[simp] def truthD (x : D) (S : List O) : Option Bool :=
  match x with
  | .non => some false
  | .bl b => some b
  | .int i => some (i != 0)
  | .str cs => if cs.length ≤ sizeLine then some (!cs.isEmpty) else none
  | x => match seqOf S x with
    | some ds => some (!ds.isEmpty)
    | none => match dkOf S x with
      | some (ks, _) => some (!ks.isEmpty)
      | none => none

def PU (F : Fx) (μ : Mu) (H : Hp) (r : R Unit) (Q : Hp → Prop) : Prop := match r with
  | .ok _ S' => ∀ μ' H', Ext μ H μ' H' → Rel F μ' S' H' → Q H'
  | _ => False
def rP3 (F : Fx) (f : D → D → D → List O → R Unit) : TSet := fun x y z H Q => ∃ μ S d e w, Rel F μ S H ∧ Rep F μ H d x ∧ Rep F μ H e y ∧ Rep F μ H w z ∧ PU F μ H (f d e w S) Q

section
variable {X : Cx} {F : Fx}
theorem atI_rep {μ : Mu} {H : Hp} {ds : List D} {vs : List V} {i : Int} {d : D} (r : RepL F μ H ds vs) (h : atI ds i = some d) : ∃ v, atI vs i = some v ∧ Rep F μ H d v := by
  unfold atI at h ⊢
  obtain ⟨j, h1, h2⟩ := Option.bind_eq_some_iff.mp h
  obtain ⟨v, e, rv⟩ := r.get h2
  exact ⟨v, by rw [r.length, h1]; exact e, rv⟩
theorem ix_S (hk : F.K = X.K) (hu : X.A.units + 64 < cLine) : IxR X (rP2 F idxD) := by
  intro value slice pins s σ H x y v u Q I rx ry h hs
  obtain ⟨μ, S, d, e, rel, hd, he, p⟩ := h
  unfold idxD at p
  split at p
  · split at p
    · split at p
      · rename_i cs i hl _ c hc
        cases (show _ = _ from hd); cases rep_int he
        exact ix_str value slice pins s σ H _ _ v u Q I rx ry ⟨_, _, c, rfl, rfl, by rw [mkS_len]; exact hl, hc, p.here rel rfl⟩ hs
      · exact p.elim
    · exact p.elim
  · split at p
    · rename_i ds eds
      obtain ⟨a, vs, rfl, q, r⟩ := seqOf_rep rel hd eds
      split at p
      · split at p
        · rename_i i w hw
          cases rep_int he
          obtain ⟨z, hz, rz⟩ := atI_rep r hw
          rcases q with q | q
          · exact ix_list value slice pins s σ H _ _ v u Q I rx ry ⟨a, vs, _, z, rfl, rfl, hk ▸ q, hz, p.here rel rz⟩ hs
          · exact ix_tup value slice pins s σ H _ _ v u Q I rx ry ⟨a, vs, _, z, rfl, rfl, hk ▸ q, hz, p.here rel rz⟩ hs
        · exact p.elim
      · exact p.elim
    · split at p
      · rename_i w eo
        obtain ⟨a, ov, rfl, g, _, n1, n2⟩ := dGet_rep rel hd he eo
        obtain ⟨z, ez, rz⟩ := n2 w rfl
        subst ez
        cases rx
        exact tail_any (dict_typeIs I g) PySem.F.slot_dict_getitem.lookup (d_getItem (by omega) I g ry fun w' s3 I3 rw' => ⟨z, H, I3, rw', p.here rel rz⟩) hs
      · exact p.elim
theorem RepL.cut {μ : Mu} {H : Hp} {ds : List D} {vs : List V} (lo hi : Option Int) (r : RepL F μ H ds vs) : RepL F μ H (cutL ds lo hi) (cutV vs lo hi) := by
  unfold cutL cutV
  rw [r.length]
  exact (r.drop _).take _
theorem cutL_all {α : Type} {xs : List α} {lo hi : Option Int} (h : HT.sIx xs.length 0 lo = 0 ∧ HT.sIx xs.length xs.length hi = xs.length) : cutL xs lo hi = xs := by
  unfold cutL
  rw [h.1, h.2]; simp
theorem cutS_mk (cs : List Nat) (lo hi : Option Int) : cutS (mkS cs) lo hi = mkS (cutL cs lo hi) := by
  unfold cutS cutL
  rw [mkS_len]
def rPs (F : Fx) : V → Option Int → Option Int → Hp → VK → Prop := fun x lo hi H Q => ∃ μ S d, Rel F μ S H ∧ Rep F μ H d x ∧ P1 F μ H (sliceD d lo hi S) Q
theorem sl_S (hk : F.K = X.K) : SlR X (rPs F) := by
  intro pins s σ H x v vl vu lo hi sl Q I rx hs pl pu h
  obtain ⟨μ, S, d, rel, hd, p⟩ := h
  unfold sliceD at p
  split at p
  · split at p
    · rename_i hl
      cases (show _ = _ from hd)
      exact sl_str pins s σ H _ v vl vu lo hi sl Q I rx hs pl pu ⟨_, rfl, by rw [mkS_len]; exact hl, by rw [cutS_mk]; exact p.here rel rfl⟩
    · exact p.elim
  · rename_i ds
    obtain ⟨a, vs, rfl, q, r⟩ := hd.seqT
    refine sl_tupA pins s σ H _ v vl vu lo hi sl Q I rx hs pl pu ⟨a, vs, rfl, hk ▸ q, fun hw => ?_, fun _ => p.tup rel (r.cut lo hi)⟩
    rw [r.length] at hw
    rw [cutL_all hw] at p
    exact p.here rel hd
  · split at p
    · rename_i ds e
      obtain ⟨a, vs, rfl, q, r⟩ := rdL_rep rel hd e
      exact sl_list pins s σ H _ v vl vu lo hi sl Q I rx hs pl pu ⟨a, vs, rfl, hk ▸ q, p.lst rel (r.cut lo hi)⟩
    · exact p.elim
theorem set_S (hu : X.A.units + 64 < cLine) : PSet X (rP3 F setD) := by
  intro pins s σ H o i v ov iv u Q I ro ri rv h
  obtain ⟨μ, S, d, e, w, rel, hd, he, hw, p⟩ := h
  unfold setD at p
  split at p
  · rename_i n
    obtain ⟨a, rfl, hm⟩ := hd
    have hmem : a ∈ μ := List.mem_of_getElem? hm
    split at p
    · rename_i ds hn
      obtain ⟨vs, q, r⟩ := rel.obj n _ a hn hm
      split at p
      · split at p
        · rename_i k _ j hj
          cases rep_int he
          refine set_list pins s σ H _ _ v ov iv u Q I ro ri rv ⟨a, vs, k, j, rfl, rfl, q, by rw [r.length]; exact hj, ?_⟩
          exact p μ _ (Ext.wr hmem) (rel.wr hm ⟨_, upd_same, (r.set j hw).mono (Ext.wr hmem)⟩)
        · exact p.elim
      · exact p.elim
    · rename_i ks vs hn
      obtain ⟨us, q, l, r⟩ := rel.obj n _ a hn hm
      split at p
      · split at p
        · rename_i k ek hl
          cases keyD_rep he ek
          cases ro
          obtain ⟨ws, r1, e1, l1⟩ := putK_rep (k := k) r l hw
          refine d_setItem (H' := upd H a (.dK (putK (ks.zip us) k v))) (by omega) I (DPut.k q ?_) ri rv fun s' I' => ⟨_, I', ?_⟩
          · rw [List.length_zip]; omega
          · exact p μ _ (Ext.wr hmem) (rel.wr hm ⟨ws, by rw [upd_same, e1], l1, r1.mono (Ext.wr hmem)⟩)
        · exact p.elim
      · exact p.elim
    · rename_i ks vs hn
      obtain ⟨us, q, l, r⟩ := rel.obj n _ a hn hm
      split at p
      · split at p
        · rename_i k ek hl
          obtain ⟨b, rfl, hb⟩ := keyT_rep he ek
          cases ro
          obtain ⟨ws, r1, e1, l1⟩ := putK_rep (k := k) r l hw
          refine d_setItem (H' := upd H a (.dT (putK (ks.zip us) k v))) (by omega) I (DPut.t q hb ?_) ri rv fun s' I' => ⟨_, I', ?_⟩
          · rw [List.length_zip]; omega
          · exact p μ _ (Ext.wr hmem) (rel.wr hm ⟨ws, by rw [upd_same, e1], l1, r1.mono (Ext.wr hmem)⟩)
        · exact p.elim
      · exact p.elim
    · exact p.elim
  · exact p.elim
def rPt (F : Fx) : V → Hp → (Bool → Hp → Prop) → Prop := fun x H Q => ∃ μ S d b, Rel F μ S H ∧ Rep F μ H d x ∧ truthD d S = some b ∧ Q b H
theorem isE_zip {κ : Type} {ks : List κ} {us : List V} (h : ks.length = us.length) : (ks.zip us).isEmpty = ks.isEmpty := by
  cases ks with
  | nil => rfl
  | cons a as => cases us with
    | nil => simp at h
    | cons u us => rfl
theorem isE_len {α β : Type} {xs : List α} {ys : List β} (h : xs.length = ys.length) : xs.isEmpty = ys.isEmpty := by
  cases xs with
  | nil => cases ys with
    | nil => rfl
    | cons _ _ => simp at h
  | cons _ _ => cases ys with
    | nil => simp at h
    | cons _ _ => rfl
theorem tru_S (hk : F.K = X.K) : TruR X (rPt F) := by
  intro pins s σ H x v Q I rx h
  obtain ⟨μ, S, d, b, rel, hd, p, q⟩ := h
  refine tru_ok pins s σ H x v Q I rx ⟨b, ?_, q⟩
  unfold truthD at p
  split at p
  · cases (show _ = _ from hd); cases p; rfl
  · cases (show _ = _ from hd); cases p; rfl
  · cases rep_int hd; cases p; rfl
  · split at p
    · rename_i cs hl
      cases (show _ = _ from hd); cases p
      refine ⟨by rw [mkS_len]; exact hl, ?_⟩
      rw [mkS_len]
      cases cs <;> simp
      omega
    · cases p
  · split at p
    · rename_i ds e
      cases p
      obtain ⟨a, vs, rfl, z, r⟩ := seqOf_rep rel hd e
      have el := isE_len r.length
      rcases z with z | z
      · exact .inl ⟨vs, hk ▸ z, by rw [el]⟩
      · exact .inr (.inl ⟨vs, hk ▸ z, by rw [el]⟩)
    · split at p
      · rename_i ks vs e
        cases p
        obtain ⟨a, us, rfl, z, l, r⟩ := dkOf_rep rel hd e
        exact .inr (.inr ⟨_, z, by rw [isE_zip (by rw [r.length]; exact l)]⟩)
      · cases p
end

/-! ### built-in functions and types -/
inductive BI where
  | len | abs | int | tuple | list | all | any | sum | max | min | sorted | str | repr | set | dict
  deriving DecidableEq
def intsOf : List D → Option (List Int)
  | [] => some []
  | .int i :: ds => (intsOf ds).map (i :: ·)
  | _ => none
def blsOf : List D → Option (List Bool)
  | [] => some []
  | .bl i :: ds => (blsOf ds).map (i :: ·)
  | _ => none
def strsOf : List D → Option (List (List Nat))
  | [] => some []
  | .str i :: ds => (strsOf ds).map (i :: ·)
  | _ => none
theorem intsOf_eq : ∀ {ds : List D} {ns : List Int}, intsOf ds = some ns → ds = ns.map D.int
  | [], _, h => by cases h; rfl
  | .int i :: ds, ns, h => by
    obtain ⟨r, e, rfl⟩ := Option.map_eq_some_iff.mp (show (intsOf ds).map (i :: ·) = some ns from h)
    rw [intsOf_eq e]; rfl
theorem blsOf_eq : ∀ {ds : List D} {ns : List Bool}, blsOf ds = some ns → ds = ns.map D.bl
  | [], _, h => by cases h; rfl
  | .bl i :: ds, ns, h => by
    obtain ⟨r, e, rfl⟩ := Option.map_eq_some_iff.mp (show (blsOf ds).map (i :: ·) = some ns from h)
    rw [blsOf_eq e]; rfl
theorem strsOf_eq : ∀ {ds : List D} {ns : List (List Nat)}, strsOf ds = some ns → ds = ns.map D.str
  | [], _, h => by cases h; rfl
  | .str i :: ds, ns, h => by
    obtain ⟨r, e, rfl⟩ := Option.map_eq_some_iff.mp (show (strsOf ds).map (i :: ·) = some ns from h)
    rw [strsOf_eq e]; rfl
@[simp] theorem intsOf_map (ns : List Int) : intsOf (ns.map D.int) = some ns := by
  induction ns with
  | nil => rfl
  | cons n ns ih => simp [intsOf, ih]
@[simp] theorem blsOf_map (ns : List Bool) : blsOf (ns.map D.bl) = some ns := by
  induction ns with
  | nil => rfl
  | cons n ns ih => simp [blsOf, ih]
@[simp] theorem strsOf_map (ns : List (List Nat)) : strsOf (ns.map D.str) = some ns := by
  induction ns with
  | nil => rfl
  | cons n ns ih => simp [strsOf, ih]
def maxL : Int → List Int → Int
  | a, [] => a
  | a, b :: r => maxL (if b > a then b else a) r
def minL : Int → List Int → Int
  | a, [] => a
  | a, b :: r => minL (if b < a then b else a) r
theorem maxL_le : ∀ (a : Int) (l : List Int), a ≤ maxL a l ∧ ∀ x ∈ l, x ≤ maxL a l
  | a, [] => ⟨Int.le_refl _, fun _ h => by cases h⟩
  | a, b :: r => by
    obtain ⟨h1, h2⟩ := maxL_le (if b > a then b else a) r
    unfold maxL
    have h3 : a ≤ maxL (if b > a then b else a) r ∧ b ≤ maxL (if b > a then b else a) r := by
      by_cases hb : b > a
      · rw [if_pos hb] at h1 ⊢; exact ⟨by omega, h1⟩
      · rw [if_neg hb] at h1 ⊢; exact ⟨h1, by omega⟩
    refine ⟨h3.1, fun x hx => ?_⟩
    rcases List.mem_cons.mp hx with rfl | hx
    · exact h3.2
    · exact h2 x hx
theorem maxL_mem : ∀ (a : Int) (l : List Int), maxL a l ∈ a :: l
  | a, [] => List.mem_cons_self
  | a, b :: r => by
    have h := maxL_mem (if b > a then b else a) r
    unfold maxL
    rcases List.mem_cons.mp h with h | h
    · rw [h]; split <;> simp
    · simp [h]
theorem minL_le : ∀ (a : Int) (l : List Int), minL a l ≤ a ∧ ∀ x ∈ l, minL a l ≤ x
  | a, [] => ⟨Int.le_refl _, fun _ h => by cases h⟩
  | a, b :: r => by
    obtain ⟨h1, h2⟩ := minL_le (if b < a then b else a) r
    unfold minL
    have h3 : minL (if b < a then b else a) r ≤ a ∧ minL (if b < a then b else a) r ≤ b := by
      by_cases hb : b < a
      · rw [if_pos hb] at h1 ⊢; exact ⟨by omega, h1⟩
      · rw [if_neg hb] at h1 ⊢; exact ⟨h1, by omega⟩
    refine ⟨h3.1, fun x hx => ?_⟩
    rcases List.mem_cons.mp hx with rfl | hx
    · exact h3.2
    · exact h2 x hx
theorem minL_mem : ∀ (a : Int) (l : List Int), minL a l ∈ a :: l
  | a, [] => List.mem_cons_self
  | a, b :: r => by
    have h := minL_mem (if b < a then b else a) r
    unfold minL
    rcases List.mem_cons.mp h with h | h
    · rw [h]; split <;> simp
    · simp [h]

def lenD (xs : List D) (S : List O) : R D := match xs with
  | [.str cs] => if cs.length ≤ sizeLine then .ok (.int cs.length) S else .bad
  | [x] => (match seqOf S x with
    | some ds => .ok (.int ds.length) S
    | none => match dkOf S x with
      | some (ks, _) => .ok (.int ks.length) S
      | none => match dtOf S x with
        | some (ks, _) => .ok (.int ks.length) S
        | none => .bad)
  | _ => .bad
def absD (xs : List D) (S : List O) : R D := match xs with
  | [.int i] => .ok (.int (if i < 0 then -i else i)) S
  | _ => .bad
def intD (xs : List D) (S : List O) : R D := match xs with
  | [.int i] => .ok (.int i) S
  | [.bl b] => .ok (.int (if b then 1 else 0)) S
  | [.str cs] => (match PySem.intText? (mkS cs) with
    | some n => if cs.length ≤ 640 then .ok (.int n) S else .bad
    | none => .bad)
  | [.str cs, .int 2] => if cs ≠ [] ∧ cs.length ≤ 640 ∧ binB cs = true then .ok (.int (bitsV cs : Nat)) S else .bad
  | _ => .bad
def tupleD (xs : List D) (S : List O) : R D := match xs with
  | [.tup ds] => .ok (.tup ds) S
  | [.ft ds] => .ok (.ft ds) S
  | [.str cs] => if cs.length ≤ sizeLine then .ok (.tup (cs.map fun c => .str [c])) S else .bad
  | [x] => (match rdL S x with
    | some ds => .ok (.tup ds) S
    | none => .bad)
  | _ => .bad
def listD (xs : List D) (S : List O) : R D := match xs with
  | [.str cs] => if cs.length ≤ sizeLine then .ok (.lst (cs.map fun c => .str [c])) S else .bad
  | [x] => (match seqOf S x with
    | some ds => .ok (.lst ds) S
    | none => .bad)
  | _ => .bad
def allD (xs : List D) (S : List O) : R D := match xs with
  | [x] => (match rdL S x with
    | some ds => (match blsOf ds with
      | some bs => .ok (.bl (bs.all id)) S
      | none => .bad)
    | none => .bad)
  | _ => .bad
def anyD (xs : List D) (S : List O) : R D := match xs with
  | [x] => (match rdL S x with
    | some ds => (match blsOf ds with
      | some bs => .ok (.bl (bs.any id)) S
      | none => .bad)
    | none => .bad)
  | _ => .bad
def sumD (xs : List D) (S : List O) : R D := match xs with
  | [x] => (match rdL S x with
    | some ds => (match intsOf ds with
      | some ns => .ok (.int ns.sum) S
      | none => .bad)
    | none => .bad)
  | _ => .bad
def maxD (xs : List D) (S : List O) : R D := match xs with
  | [.int i, .int j] => .ok (.int (if j > i then j else i)) S
  | [x] => (match rdL S x with
    | some ds => (match intsOf ds with
      | some (n :: ns) => .ok (.int (maxL n ns)) S
      | _ => .bad)
    | none => .bad)
  | _ => .bad
def minD (xs : List D) (S : List O) : R D := match xs with
  | [.int i, .int j] => .ok (.int (if j < i then j else i)) S
  | [x] => (match rdL S x with
    | some ds => (match intsOf ds with
      | some (n :: ns) => .ok (.int (minL n ns)) S
      | _ => .bad)
    | none => .bad)
  | _ => .bad
def strD (xs : List D) (S : List O) : R D := match xs with
  | [.int i] => if i.natAbs.log2 < 1920 then .ok (.str (toString i : Str).cps.toList) S else .bad
  | _ => .bad

section
variable {X : Cx} {F : Fx} {μ : Mu} {H : Hp}
theorem repL1 {d : D} {xs : List V} (h : RepL F μ H [d] xs) : ∃ x, xs = [x] ∧ Rep F μ H d x := by
  obtain ⟨v, r, rfl, h1, h2⟩ := h
  cases (show _ = _ from h2)
  exact ⟨v, rfl, h1⟩
theorem repL2 {d e : D} {xs : List V} (h : RepL F μ H [d, e] xs) : ∃ x y, xs = [x, y] ∧ Rep F μ H d x ∧ Rep F μ H e y := by
  obtain ⟨v, r, rfl, h1, h2⟩ := h
  obtain ⟨y, rfl, h3⟩ := repL1 h2
  exact ⟨v, y, rfl, h1, h3⟩
theorem cl_len (hk : F.K = X.K) : CallR X (.builtin "len") (rPn F lenD) :=
  CallR.imp (call_len.or (call_lenD.or call_len_dT)) fun xs H Q h => by
    obtain ⟨μ, S, ds, rel, hd, p⟩ := h
    unfold lenD at p
    split at p
    · obtain ⟨x, rfl, hx⟩ := repL1 hd
      cases (show _ = _ from hx)
      split at p
      · rename_i hl
        exact .inl ⟨_, _, rfl, ⟨by rw [mkS_len]; exact hl, rfl⟩, by rw [mkS_len]; exact p.here rel rfl⟩
      · exact p.elim
    · obtain ⟨x, rfl, hx⟩ := repL1 hd
      split at p
      · rename_i es e
        obtain ⟨a, vs, rfl, z, r⟩ := seqOf_rep rel hx e
        refine .inl ⟨_, vs.length, rfl, ?_, by rw [r.length]; exact p.here rel rfl⟩
        rcases z with z | z
        · exact .inl ⟨vs, hk ▸ z, rfl⟩
        · exact .inr ⟨vs, hk ▸ z, rfl⟩
      · split at p
        · rename_i ks vs e
          obtain ⟨a, us, rfl, z, l, r⟩ := dkOf_rep rel hx e
          refine .inr (.inl ⟨a, _, rfl, z, ?_⟩)
          rw [List.length_zip, r.length, l, Nat.min_self, ← l]; exact p.here rel rfl
        · split at p
          · rename_i ks vs e
            obtain ⟨a, us, rfl, z, l, r⟩ := dtOf_rep rel hx e
            refine .inr (.inr ⟨a, _, rfl, z, ?_⟩)
            rw [List.length_zip, r.length, l, Nat.min_self, ← l]; exact p.here rel rfl
          · exact p.elim
    · exact p.elim
theorem cl_abs : CallR X (.builtin "abs") (rPn F absD) :=
  CallR.imp call_abs fun xs H Q h => by
    obtain ⟨μ, S, ds, rel, hd, p⟩ := h
    unfold absD at p
    split at p
    · obtain ⟨x, rfl, hx⟩ := repL1 hd
      cases rep_int hx
      exact ⟨_, rfl, p.here rel rfl⟩
    · exact p.elim
theorem cl_int : CallR X (.type "int") (rPn F intD) :=
  CallR.imp ((call_int1.or call_int_str).or call_int_b) fun xs H Q h => by
    obtain ⟨μ, S, ds, rel, hd, p⟩ := h
    unfold intD at p
    split at p
    · obtain ⟨x, rfl, hx⟩ := repL1 hd
      cases rep_int hx
      exact .inl (.inl (.inl ⟨_, rfl, p.here rel rfl⟩))
    · obtain ⟨x, rfl, hx⟩ := repL1 hd
      cases (show _ = _ from hx)
      exact .inl (.inl (.inr ⟨_, rfl, p.here rel rfl⟩))
    · obtain ⟨x, rfl, hx⟩ := repL1 hd
      cases (show _ = _ from hx)
      split at p
      · rename_i n e
        split at p
        · rename_i hl
          exact .inl (.inr ⟨_, n, rfl, e, by rw [mkS_len]; exact hl, p.here rel rfl⟩)
        · exact p.elim
      · exact p.elim
    · obtain ⟨x, y, rfl, hx, hy⟩ := repL2 hd
      cases (show _ = _ from hx)
      cases (show _ = _ from hy)
      split at p
      · rename_i hc
        exact .inr ⟨_, rfl, hc.1, hc.2.1, hc.2.2, p.here rel rfl⟩
      · exact p.elim
    · exact p.elim
/-! ### list(text), tuple(text) -/
theorem vals_signs : ∀ {cs : List Nat} {its : List Value}, its.length = cs.length → (∀ (j : Nat) (v : Value), its[j]? = some v → ∃ (c : Nat) (u : Tok), cs[j]? = some c ∧ v = Value.str ⟨#[c]⟩ u) → Vals (cs.map fun c => V.str (mkS [c])) its
  | [], [], _, _ => .nil
  | [], _ :: _, h, _ => by cases h
  | c :: cs, [], h, _ => by cases h
  | c :: cs, v :: its, h, q => by
    obtain ⟨d, u, e1, e2⟩ := q 0 v rfl
    simp at e1
    subst e1 e2
    exact .cons ⟨u, rfl⟩ (vals_signs (by simpa using h) fun j v e => by
      obtain ⟨d, u, e1, e2⟩ := q (j + 1) v (by simpa using e)
      exact ⟨d, u, by simpa using e1, e2⟩)
theorem items_vals {cs : List Nat} {acc : Array Value} (h : ItemsOf (SignAt (mkS cs)) acc (mkS cs).cps.size) : Vals (cs.map fun c => V.str (mkS [c])) acc.toList ∧ acc.size = cs.length := by
  obtain ⟨h1, h2⟩ := h
  have hz : acc.size = cs.length := by rw [h1]; simp
  refine ⟨vals_signs (by simpa using hz) fun j v e => ?_, hz⟩
  obtain ⟨c, u, e1, e2⟩ := h2 j v (by simpa using e)
  exact ⟨c, u, by simpa using e1, e2⟩
theorem call_list_txt (hc : X.calm = true) : CallR X (.type "list") (fun xs H Q => ∃ cs : List Nat, xs = [.str (mkS cs)] ∧ cs.length ≤ sizeLine ∧ ∀ l, H l = none → Q (.ref l) (upd H l (.lst (cs.map fun c => V.str (mkS [c]))))) := by
  intro pins s σ H xs us Q I r h
  obtain ⟨cs, rfl, hz, q⟩ := h
  obtain ⟨u, rfl, rx⟩ := vals1 r
  obtain ⟨t, rfl⟩ := rx
  refine call_list_str (I.ok.hd hc) (mkS cs) t (hn := by simpa using hz) fun h' tk acc c' kp e hacc => ?_
  obtain ⟨r', hz'⟩ := items_vals hacc
  exact ⟨.ref s.heap.objs.size, _, I.laid (t' := tk) kp (Nat.le_refl _) (show ObjOk X.prog X.w _ h' _ (.lst _) from ⟨by simpa using hz, acc.toList, c', r', by simpa using e⟩), rfl, q _ (I.hok.fresh (Nat.le_refl _))⟩
theorem call_tuple_txt (hc : X.calm = true) : CallR X (.type "tuple") (fun xs H Q => ∃ cs : List Nat, xs = [.str (mkS cs)] ∧ cs.length ≤ sizeLine ∧ ∀ l, H l = none → Q (.ref l) (upd H l (.tup (cs.map fun c => V.str (mkS [c]))))) := by
  intro pins s σ H xs us Q I r h
  obtain ⟨cs, rfl, hz, q⟩ := h
  obtain ⟨u, rfl, rx⟩ := vals1 r
  obtain ⟨t, rfl⟩ := rx
  refine call_tuple_str (I.ok.hd hc) (mkS cs) t (hsz := by simpa using hz) fun h' tk acc kp hacc => ?_
  obtain ⟨r', hz'⟩ := items_vals hacc
  have I1 : Inv X pins σ H { s with heap := h', toks := tk } := I.kept (t' := tk) kp
  have I2 : Inv X pins σ (upd H h'.objs.size (.tup (cs.map fun c => V.str (mkS [c])))) { s with heap := h'.push { cls := .type "tuple", data := .seq acc }, toks := tk } :=
    I1.laid (t' := tk) (fun b o e => Heap.get?_push_of_some _ e) (Nat.le_refl _) (show ObjOk X.prog X.w _ _ _ (.tup _) from ⟨by simpa using hz, acc.toList, r', IsTup.new _ _⟩)
  exact ⟨.ref h'.objs.size, _, I2, rfl, q _ (I1.hok.fresh (Nat.le_refl _))⟩
theorem RepL.signs {F : Fx} {μ : Mu} {H : Hp} : ∀ cs : List Nat, RepL F μ H (cs.map fun c => D.str [c]) (cs.map fun c => V.str (mkS [c]))
  | [] => rfl
  | _ :: cs => ⟨_, _, rfl, rfl, RepL.signs cs⟩
theorem cl_tuple (hk : F.K = X.K) (hc : X.calm = true) : CallR X (.type "tuple") (rPn F tupleD) :=
  CallR.imp (call_tuple_of.or (call_tuple_txt hc)) fun xs H Q h => by
    obtain ⟨μ, S, ds, rel, hd, p⟩ := h
    unfold tupleD at p
    split at p
    · obtain ⟨x, rfl, hx⟩ := repL1 hd
      obtain ⟨a, vs, rfl, z, r⟩ := Rep.seqT hx
      exact .inl ⟨a, vs, rfl, .inr ⟨hk ▸ z, p.here rel hx⟩⟩
    · obtain ⟨x, rfl, hx⟩ := repL1 hd
      obtain ⟨a, vs, rfl, z, r⟩ := Rep.seqF hx
      exact .inl ⟨a, vs, rfl, .inr ⟨hk ▸ z, p.here rel hx⟩⟩
    · rename_i cs
      obtain ⟨x, rfl, hx⟩ := repL1 hd
      cases (show _ = _ from hx)
      split at p
      · rename_i hz
        exact .inr ⟨cs, rfl, hz, p.tup rel (RepL.signs cs)⟩
      · exact p.elim
    · obtain ⟨x, rfl, hx⟩ := repL1 hd
      split at p
      · rename_i es e
        obtain ⟨a, vs, rfl, z, r⟩ := rdL_rep rel hx e
        exact .inl ⟨a, vs, rfl, .inl ⟨hk ▸ z, p.tup rel r⟩⟩
      · exact p.elim
    · exact p.elim
theorem cl_list (hk : F.K = X.K) (hc : X.calm = true) : CallR X (.type "list") (rPn F listD) :=
  CallR.imp (call_list_of.or (call_list_txt hc)) fun xs H Q h => by
    obtain ⟨μ, S, ds, rel, hd, p⟩ := h
    unfold listD at p
    split at p
    · rename_i cs
      obtain ⟨x, rfl, hx⟩ := repL1 hd
      cases (show _ = _ from hx)
      split at p
      · rename_i hz
        exact .inr ⟨cs, rfl, hz, p.lst rel (RepL.signs cs)⟩
      · exact p.elim
    · obtain ⟨x, rfl, hx⟩ := repL1 hd
      split at p
      · rename_i es e
        obtain ⟨a, vs, rfl, z, r⟩ := seqOf_rep rel hx e
        exact .inl ⟨a, vs, rfl, hk ▸ z, p.lst rel r⟩
      · exact p.elim
    · exact p.elim
theorem cl_all (hk : F.K = X.K) (hc : X.calm = true) : CallR X (.builtin "all") (rPn F allD) :=
  CallR.imp (cr_all hc) fun xs H Q h => by
    obtain ⟨μ, S, ds, rel, hd, p⟩ := h
    unfold allD at p
    split at p
    · obtain ⟨x, rfl, hx⟩ := repL1 hd
      split at p
      · rename_i es e
        obtain ⟨a, vs, rfl, z, r⟩ := rdL_rep rel hx e
        split at p
        · rename_i bs eb
          rw [blsOf_eq eb] at r
          rw [r.bl] at z
          exact ⟨a, bs, rfl, hk ▸ z, p.here rel rfl⟩
        · exact p.elim
      · exact p.elim
    · exact p.elim
theorem cl_any (hk : F.K = X.K) (hc : X.calm = true) : CallR X (.builtin "any") (rPn F anyD) :=
  CallR.imp (cr_any hc) fun xs H Q h => by
    obtain ⟨μ, S, ds, rel, hd, p⟩ := h
    unfold anyD at p
    split at p
    · obtain ⟨x, rfl, hx⟩ := repL1 hd
      split at p
      · rename_i es e
        obtain ⟨a, vs, rfl, z, r⟩ := rdL_rep rel hx e
        split at p
        · rename_i bs eb
          rw [blsOf_eq eb] at r
          rw [r.bl] at z
          exact ⟨a, bs, rfl, hk ▸ z, p.here rel rfl⟩
        · exact p.elim
      · exact p.elim
    · exact p.elim
theorem cl_sum (hk : F.K = X.K) (hc : X.calm = true) : CallR X (.builtin "sum") (rPn F sumD) :=
  CallR.imp (cr_sum hc) fun xs H Q h => by
    obtain ⟨μ, S, ds, rel, hd, p⟩ := h
    unfold sumD at p
    split at p
    · obtain ⟨x, rfl, hx⟩ := repL1 hd
      split at p
      · rename_i es e
        obtain ⟨a, vs, rfl, z, r⟩ := rdL_rep rel hx e
        split at p
        · rename_i bs eb
          rw [intsOf_eq eb] at r
          rw [r.int] at z
          exact ⟨a, bs, rfl, hk ▸ z, p.here rel rfl⟩
        · exact p.elim
      · exact p.elim
    · exact p.elim
theorem cl_max (hk : F.K = X.K) (hc : X.calm = true) : CallR X (.builtin "max") (rPn F maxD) :=
  CallR.imp ((call_max2 hc).or (cr_max hc)) fun xs H Q h => by
    obtain ⟨μ, S, ds, rel, hd, p⟩ := h
    unfold maxD at p
    split at p
    · obtain ⟨x, y, rfl, hx, hy⟩ := repL2 hd
      cases rep_int hx; cases rep_int hy
      exact .inl ⟨_, _, rfl, p.here rel rfl⟩
    · obtain ⟨x, rfl, hx⟩ := repL1 hd
      split at p
      · rename_i es e
        obtain ⟨a, vs, rfl, z, r⟩ := rdL_rep rel hx e
        split at p
        · rename_i n ns eb
          rw [intsOf_eq eb] at r
          rw [r.int] at z
          refine .inr ⟨a, _, rfl, hk ▸ z, by simp, fun m hm hle => ?_⟩
          have e1 : m = maxL n ns := by
            have h1 := hle _ (maxL_mem n ns)
            have h2 : m ≤ maxL n ns := by
              obtain ⟨q1, q2⟩ := maxL_le n ns
              rcases List.mem_cons.mp hm with rfl | hm
              · exact q1
              · exact q2 m hm
            omega
          rw [e1]; exact p.here rel rfl
        · exact p.elim
      · exact p.elim
    · exact p.elim
theorem cl_min (hk : F.K = X.K) (hc : X.calm = true) : CallR X (.builtin "min") (rPn F minD) :=
  CallR.imp ((call_min2 hc).or (cr_min hc)) fun xs H Q h => by
    obtain ⟨μ, S, ds, rel, hd, p⟩ := h
    unfold minD at p
    split at p
    · obtain ⟨x, y, rfl, hx, hy⟩ := repL2 hd
      cases rep_int hx; cases rep_int hy
      exact .inl ⟨_, _, rfl, p.here rel rfl⟩
    · obtain ⟨x, rfl, hx⟩ := repL1 hd
      split at p
      · rename_i es e
        obtain ⟨a, vs, rfl, z, r⟩ := rdL_rep rel hx e
        split at p
        · rename_i n ns eb
          rw [intsOf_eq eb] at r
          rw [r.int] at z
          refine .inr ⟨a, _, rfl, hk ▸ z, by simp, fun m hm hle => ?_⟩
          have e1 : m = minL n ns := by
            have h1 := hle _ (minL_mem n ns)
            have h2 : minL n ns ≤ m := by
              obtain ⟨q1, q2⟩ := minL_le n ns
              rcases List.mem_cons.mp hm with rfl | hm
              · exact q1
              · exact q2 m hm
            omega
          rw [e1]; exact p.here rel rfl
        · exact p.elim
      · exact p.elim
    · exact p.elim
theorem mkS_toList (z : Str) : mkS z.cps.toList = z := by cases z; rfl
theorem cl_str : CallR X (.type "str") (rPn F strD) :=
  CallR.imp call_str_int fun xs H Q h => by
    obtain ⟨μ, S, ds, rel, hd, p⟩ := h
    unfold strD at p
    split at p
    · split at p
      · rename_i hl
        obtain ⟨x, rfl, hx⟩ := repL1 hd
        cases rep_int hx
        exact ⟨_, rfl, hl, by have := p.here rel (v := .str _) rfl; rw [mkS_toList] at this; exact this⟩
      · exact p.elim
    · exact p.elim
end
end Ev
end
section
set_option Elab.async false
set_option linter.all false
set_option maxRecDepth 100000
set_option maxHeartbeats 4000000
set_option autoImplicit false
/-! Ev, part B5: built-in methods. -/
namespace Ev
open PySem PySem.Spec PyProof.Rows L2

inductive MT where
  | append | pop | extend | insert | lindex | lcount | tindex | join | scount | get
  deriving DecidableEq
def MT.ty : MT → String
  | .append | .pop | .extend | .insert | .lindex | .lcount => "list"
  | .tindex => "tuple"
  | .join | .scount => "str"
  | .get => "dict"
def MT.nm : MT → Str
  | .append => "append"
  | .pop => "pop"
  | .extend => "extend"
  | .insert => "insert"
  | .lindex => "index"
  | .tindex => "index"
  | .lcount => "count"
  | .scount => "count"
  | .join => "join"
  | .get => "get"
def MT.id : MT → String
  | .append => "list.append"
  | .pop => "list.pop"
  | .extend => "list.extend"
  | .insert => "list.insert"
  | .lindex => "list.index"
  | .tindex => "tuple.index"
  | .lcount => "list.count"
  | .scount => "str.count"
  | .join => "str.join"
  | .get => "dict.get"
/-- the receiver is of that type -/
def isStrD : D → Bool
  | .str _ => true
  | _ => false
def MT.at (m : MT) (S : List O) (d : D) : Bool := match m with
  | .append | .pop | .extend | .insert | .lindex | .lcount => (rdL S d).isSome
  | .tindex => (match d with
    | .ft _ => true
    | _ => false)
  | .join | .scount => isStrD d
  | .get => (dkOf S d).isSome || (dtOf S d).isSome
def flatD : D → Bool
  | .non | .bl _ | .int _ | .str _ => true
  | _ => false
def eqF : D → D → Bool
  | .non, .non => true
  | .bl a, .bl b => a == b
  | .bl a, .int b => (if a then 1 else 0) == b
  | .int a, .bl b => a == (if b then 1 else 0)
  | .int a, .int b => a == b
  | .str a, .str b => a == b
  | _, _ => false
def joinL (sep : List Nat) : List (List Nat) → List Nat
  | [] => []
  | [x] => x
  | x :: y :: r => x ++ sep ++ joinL sep (y :: r)
/-- the place of the first one -/
def findI (p : D → Bool) : List D → Option Nat
  | [] => none
  | d :: ds => if p d then some 0 else (findI p ds).map (· + 1)
def methD (m : MT) (d : D) (xs : List D) (S : List O) : R D := match m with
  | .append => (match d, xs with
    | .ref n, [w] => (match S[n]? with
      | some (.lst ds) => if ds.length < sizeLine then .ok .non (S.set n (.lst (ds ++ [w]))) else .bad
      | _ => .bad)
    | _, _ => .bad)
  | .pop => (match d, xs with
    | .ref n, [] => (match S[n]? with
      | some (.lst ds) => (match ds[ds.length - 1]? with
        | some w => .ok w (S.set n (.lst ds.dropLast))
        | none => .bad)
      | _ => .bad)
    | .ref n, [.int i] => (match S[n]? with
      | some (.lst ds) => (match ixN ds.length i with
        | some k => (match ds[k]? with
          | some w => if -(2 ^ 63) ≤ i ∧ i < 2 ^ 63 then .ok w (S.set n (.lst (ds.eraseIdx k))) else .bad
          | none => .bad)
        | none => .bad)
      | _ => .bad)
    | _, _ => .bad)
  | .extend => (match d, xs with
    | .ref n, [w] => (match S[n]?, listOf S w with
      | some (.lst ds), some es => if ds.length + es.length ≤ sizeLine then .ok .non (S.set n (.lst (ds ++ es))) else .bad
      | _, _ => .bad)
    | _, _ => .bad)
  | .insert => (match d, xs with
    | .ref n, [.int i, w] => (match S[n]? with
      | some (.lst ds) => if ds.length < sizeLine ∧ 0 ≤ i ∧ i < 2 ^ 63 then .ok .non (S.set n (.lst (ds.take i.toNat ++ [w] ++ ds.drop i.toNat))) else .bad
      | _ => .bad)
    | _, _ => .bad)
  | .lindex => (match rdL S d, xs with
    | some ds, [w] => if flatD w && ds.all flatD then (match findI (fun z => eqF z w) ds with
      | some j => .ok (.int j) S
      | none => .bad) else .bad
    | _, _ => .bad)
  | .lcount => (match rdL S d, xs with
    | some ds, [w] => if flatD w && ds.all flatD then .ok (.int (ds.countP fun z => eqF z w : Nat)) S else .bad
    | _, _ => .bad)
  | .tindex => (match d, xs with
    | .ft ds, [.str z] => (match strsOf ds with
      | some ys => (match findI (fun w => eqF w (.str z)) ds with
        | some j => .ok (.int j) S
        | none => .bad)
      | none => .bad)
    | _, _ => .bad)
  | .join => (match d, xs with
    | .str a, [x] => (match seqOf S x with
      | some ds => (match strsOf ds with
        | some ys => if (ys.map (·.length)).sum + ys.length * a.length ≤ 16777216 then .ok (.str (joinL a ys)) S else .bad
        | none => .bad)
      | none => .bad)
    | _, _ => .bad)
  | .scount => (match d, xs with
    | .str a, [.str b] => .ok (.int (Txt.count (mkS a) (mkS b))) S
    | _, _ => .bad)
  | .get => (match xs with
    | [k] => (match dGet S d k with
      | some o => .ok (o.getD .non) S
      | none => .bad)
    | [k, z] => (match dGet S d k with
      | some o => .ok (o.getD z) S
      | none => .bad)
    | _ => .bad)

section
variable {F : Fx} {μ : Mu} {H : Hp}
theorem eqF_V {d e : D} {x y : V} (hd : Rep F μ H d x) (he : Rep F μ H e y) (fd : flatD d = true) (fe : flatD e = true) : eqV x y = eqF d e := by
  cases d <;> first
    | (cases fd; done)
    | (cases e <;> first
      | (cases fe; done)
      | (cases (show _ = _ from hd); cases (show _ = _ from he); first | rfl | (show (mkS _ == mkS _) = (_ == _); rw [Bool.eq_iff_iff]; simp [mkS])))
theorem flat_V {d : D} {x : V} (hd : Rep F μ H d x) (fd : flatD d = true) : flatV x = true := by
  cases d <;> first | (cases fd; done) | (cases (show _ = _ from hd); rfl)
theorem flats_V : ∀ {ds : List D} {vs : List V}, RepL F μ H ds vs → ds.all flatD = true → vs.all flatV = true
  | [], _, h, _ => by cases (show _ = _ from h); rfl
  | d :: ds, _, h, f => by
    obtain ⟨v, r, rfl, h1, h2⟩ := h
    rw [List.all_cons, Bool.and_eq_true] at f ⊢
    exact ⟨flat_V h1 f.1, flats_V h2 f.2⟩
theorem findI_some {p : D → Bool} : ∀ {ds : List D} {j : Nat}, findI p ds = some j → (∃ d, ds[j]? = some d ∧ p d = true) ∧ ∀ m d, m < j → ds[m]? = some d → p d = false
  | [], _, h => by cases h
  | d :: ds, j, h => by
    unfold findI at h
    split at h
    · rename_i hp
      cases h
      exact ⟨⟨d, rfl, hp⟩, fun m _ hm => absurd hm (Nat.not_lt_zero m)⟩
    · rename_i hp
      obtain ⟨k, hk, rfl⟩ := Option.map_eq_some_iff.mp h
      obtain ⟨⟨w, h1, h2⟩, h3⟩ := findI_some hk
      refine ⟨⟨w, by simpa using h1, h2⟩, fun m e hm he => ?_⟩
      cases m with
      | zero => simp at he; subst he; simpa using hp
      | succ m => exact h3 m e (by omega) (by simpa using he)
theorem joinL_eq (sep : List Nat) : ∀ ys : List (List Nat), Txt.join (mkS sep) (ys.map mkS) = mkS (joinL sep ys) := by
  intro ys
  rw [show Txt.join (mkS sep) (ys.map mkS) = Str.join (mkS sep) (ys.map mkS) from PySem.StrLaws.glued_eq_join _ _]
  induction ys with
  | nil => rfl
  | cons y r ih =>
    cases r with
    | nil => rfl
    | cons z r =>
      show mkS y ++ mkS sep ++ Str.join (mkS sep) ((z :: r).map mkS) = _
      rw [ih, mkS_app, mkS_app]; rfl
end
section
variable {X : Cx} {F : Fx}
theorem at_ty (hk : F.K = X.K) (m : MT) {μ : Mu} {H : Hp} {S : List O} {d : D} {x : V} (rel : Rel F μ S H) (hd : Rep F μ H d x) (h : m.at S d = true) : m ≠ .tindex → tyV X.K m.ty x H := by
  intro hm
  have L : (rdL S d).isSome = true → tyV X.K "list" x H := fun h => by
    obtain ⟨ds, e⟩ := Option.isSome_iff_exists.mp h
    obtain ⟨a, vs, rfl, q, r⟩ := rdL_rep rel hd e
    exact .inl ⟨rfl, vs, hk ▸ q⟩
  have T : isStrD d = true → tyV X.K "str" x H := fun h => by
    cases d <;> first | (cases h; done) | (cases (show _ = _ from hd); rfl)
  cases m with
  | append => exact L h
  | pop => exact L h
  | extend => exact L h
  | insert => exact L h
  | lindex => exact L h
  | lcount => exact L h
  | tindex => exact absurd rfl hm
  | join => exact T h
  | scount => exact T h
  | get =>
    have h := Bool.or_eq_true_iff.mp (show ((dkOf S d).isSome || (dtOf S d).isSome) = true from h)
    rcases h with h | h
    · obtain ⟨⟨ks, vs⟩, e⟩ := Option.isSome_iff_exists.mp h
      obtain ⟨a, us, rfl, q, _⟩ := dkOf_rep rel hd e
      exact .inr (.inr (.inl ⟨rfl, .inl ⟨_, q⟩⟩))
    · obtain ⟨⟨ks, vs⟩, e⟩ := Option.isSome_iff_exists.mp h
      obtain ⟨a, us, rfl, q, _⟩ := dtOf_rep rel hd e
      exact .inr (.inr (.inl ⟨rfl, .inr ⟨_, q⟩⟩))
theorem mt_lcountF (hk : F.K = X.K) : MtR X "list.count" (rPm F (methD .lcount)) := by
  intro pins s σ H x xs v us Q I rx rxs h
  obtain ⟨μ, S, d, ds, rel, hd, hds, p⟩ := h
  simp only [methD] at p
  split at p
  · rename_i es w e
    obtain ⟨a, vs, rfl, q, r⟩ := rdL_rep rel hd e
    obtain ⟨y, rfl, hw⟩ := repL1 hds
    cases rx
    obtain ⟨u, rfl, ru⟩ := rxs.one
    split at p
    · rename_i hf
      have hf := Bool.and_eq_true_iff.mp hf
      obtain ⟨its, rv, ⟨⟨cls, dd, data, sl⟩, n, ho, hc, hdn, hdt⟩, hlen⟩ := I.list (hk ▸ q)
      simp only at hc hdt
      subst hc hdt
      have hfv := flats_V r hf.2
      refine call_meets PySem.F.slot_list_count ⟨_, ho, rfl⟩ PySem.F.entry_list_count (PySem.F.args_list_count_2 _ _)
        (SeqAt.list_countAt a its.toArray n dd sl u (eqU y)) ⟨ho, fun z hz => mem_eqAt ru (flat_V hw hf.1) rv hfv z (by simpa using hz), ?_⟩
      have ec : ∀ {vs : List V} {its : List Value} {es : List D}, Vals vs its → RepL F μ H es vs → es.all flatD = true → vs.all flatV = true → its.countP (eqU y) = es.countP fun z => eqF z w := by
        intro vs its es rv
        induction rv generalizing es with
        | nil =>
          intro r _ _
          cases es with
          | nil => rfl
          | cons e es => obtain ⟨_, _, z, _⟩ := r; cases z
        | cons r1 rr ih =>
          intro r f1 f2
          cases es with
          | nil => cases (show _ = _ from r)
          | cons e es =>
            obtain ⟨_, _, z, h1, h2⟩ := r
            cases z
            rw [List.all_cons, Bool.and_eq_true] at f1 f2
            rw [List.countP_cons, List.countP_cons, ih h2 f1.2 f2.2, eqU_of r1 f2.1, eqF_V h1 hw f1.1 hf.1]
      refine ⟨.int (es.countP fun z => eqF z w : Nat), H, I.tok _, ⟨s.toks, ?_⟩, p.here rel rfl⟩
      show Value.int ((its.toArray.toList.countP (eqU y) : Nat) : Int) s.toks = _
      rw [List.toList_toArray, ec rv r hf.2 hfv]
    · exact p.elim
  · exact p.elim
theorem mt_S (hk : F.K = X.K) (hu : X.A.units + 64 < cLine) : ∀ m : MT, MtR X m.id (rPm F (methD m))
  | .append => MtR.imp mt_append fun x xs H Q h => by
    obtain ⟨μ, S, d, ds, rel, hd, hds, p⟩ := h
    simp only [methD] at p
    split at p
    · obtain ⟨a, rfl, hm⟩ := hd
      obtain ⟨y, rfl, hy⟩ := repL1 hds
      split at p
      · rename_i es hn
        split at p
        · rename_i hl
          obtain ⟨vs, q, r⟩ := rel.obj _ _ a hn hm
          exact ⟨a, vs, y, rfl, rfl, q, by rw [r.length]; exact hl, p.wr rel hm ⟨_, upd_same, (r.snoc hy).mono (Ext.wr (List.mem_of_getElem? hm))⟩ rfl⟩
        · exact p.elim
      · exact p.elim
    · exact p.elim
  | .pop => MtR.imp (MtR.or (X := X) mt_pop mt_popAt) fun x xs H Q h => by
    obtain ⟨μ, S, d, ds, rel, hd, hds, p⟩ := h
    simp only [methD] at p
    split at p
    · obtain ⟨a, rfl, hm⟩ := hd
      cases (show _ = _ from hds)
      split at p
      · rename_i es hn
        split at p
        · rename_i w hw
          obtain ⟨vs, q, r⟩ := rel.obj _ _ a hn hm
          obtain ⟨y, hy, ry⟩ := r.get hw
          have rd : RepL F μ H es.dropLast vs.dropLast := by
            rw [List.dropLast_eq_take, List.dropLast_eq_take, r.length]; exact r.take _
          have ex := Ext.wr (H := H) (u := .lst vs.dropLast) (List.mem_of_getElem? hm)
          exact .inl ⟨a, vs, y, rfl, rfl, q, by rw [r.length]; exact hy, p.wr rel hm ⟨_, upd_same, rd.mono ex⟩ (ry.mono ex)⟩
        · exact p.elim
      · exact p.elim
    · obtain ⟨a, rfl, hm⟩ := hd
      obtain ⟨y, rfl, hy⟩ := repL1 hds
      cases rep_int hy
      split at p
      · rename_i es hn
        split at p
        · rename_i k hk'
          split at p
          · rename_i w hw
            obtain ⟨vs, q, r⟩ := rel.obj _ _ a hn hm
            obtain ⟨y, hy, ry⟩ := r.get hw
            obtain ⟨s1, s2, s3, s4⟩ := ixN_seq hk'
            have he : ∀ {es : List D} {vs : List V} (k : Nat), RepL F μ H es vs → RepL F μ H (es.eraseIdx k) (vs.eraseIdx k) := by
              intro es
              induction es with
              | nil => intro vs k h; cases (show _ = _ from h); simp [RepL]
              | cons e es ih =>
                intro vs k h
                obtain ⟨v, r, rfl, h1, h2⟩ := h
                cases k with
                | zero => exact h2
                | succ k => exact ⟨v, _, rfl, h1, ih k h2⟩
            have ex := Ext.wr (H := H) (u := .lst (vs.eraseIdx k)) (List.mem_of_getElem? hm)
            split at p
            · rename_i hb
              exact .inr ⟨a, vs, _, k, y, rfl, rfl, q, hb.1, hb.2, by rw [r.length]; exact s1, hy, p.wr rel hm ⟨_, upd_same, (he k r).mono ex⟩ (ry.mono ex)⟩
            · exact p.elim
          · exact p.elim
        · exact p.elim
      · exact p.elim
    · exact p.elim
  | .extend => MtR.imp mt_extend fun x xs H Q h => by
    obtain ⟨μ, S, d, ds, rel, hd, hds, p⟩ := h
    simp only [methD] at p
    split at p
    · obtain ⟨a, rfl, hm⟩ := hd
      obtain ⟨y, rfl, hy⟩ := repL1 hds
      split at p
      · rename_i es fs hn hf
        split at p
        · rename_i hl
          obtain ⟨vs, q, r⟩ := rel.obj _ _ a hn hm
          obtain ⟨b, us, rfl, q2, r2⟩ := listOf_rep rel hy hf
          exact ⟨a, b, vs, us, rfl, rfl, q, q2, by rw [r.length, r2.length]; exact hl, p.wr rel hm ⟨_, upd_same, (r.append r2).mono (Ext.wr (List.mem_of_getElem? hm))⟩ rfl⟩
        · exact p.elim
      · exact p.elim
    · exact p.elim
  | .insert => MtR.imp mt_insert fun x xs H Q h => by
    obtain ⟨μ, S, d, ds, rel, hd, hds, p⟩ := h
    simp only [methD] at p
    split at p
    · obtain ⟨a, rfl, hm⟩ := hd
      obtain ⟨z, y, rfl, hz, hy⟩ := repL2 hds
      cases rep_int hz
      split at p
      · rename_i es hn
        split at p
        · rename_i hl
          obtain ⟨vs, q, r⟩ := rel.obj _ _ a hn hm
          exact ⟨a, vs, _, y, rfl, rfl, q, by rw [r.length]; exact hl.1, hl.2.1, hl.2.2, p.wr rel hm ⟨_, upd_same, (((r.take _).snoc hy).append (r.drop _)).mono (Ext.wr (List.mem_of_getElem? hm))⟩ rfl⟩
        · exact p.elim
      · exact p.elim
    · exact p.elim
  | .lindex => MtR.imp mt_index fun x xs H Q h => by
    obtain ⟨μ, S, d, ds, rel, hd, hds, p⟩ := h
    simp only [methD] at p
    split at p
    · rename_i es w e
      obtain ⟨a, vs, rfl, q, r⟩ := rdL_rep rel hd e
      obtain ⟨y, rfl, hw⟩ := repL1 hds
      split at p
      · rename_i hf
        have hf := Bool.and_eq_true_iff.mp hf
        split at p
        · rename_i j hj
          obtain ⟨⟨z, z1, z2⟩, z3⟩ := findI_some hj
          obtain ⟨v, v1, v2⟩ := r.get z1
          have fz : flatD z = true := List.all_eq_true.mp hf.2 z (List.mem_of_getElem? z1)
          refine ⟨a, vs, y, j, v, rfl, rfl, hk ▸ q, flat_V hw hf.1, flats_V r hf.2, v1, by rw [eqF_V v2 hw fz hf.1]; exact z2, fun m z' hm hz' => ?_, p.here rel rfl⟩
          obtain ⟨e', e1, e2⟩ := r.get' hz'
          have fe : flatD e' = true := List.all_eq_true.mp hf.2 e' (List.mem_of_getElem? e1)
          rw [eqF_V e2 hw fe hf.1]; exact z3 m e' hm e1
        · exact p.elim
      · exact p.elim
    · exact p.elim
  | .lcount => mt_lcountF hk
  | .tindex => MtR.imp mt_tup_index fun x xs H Q h => by
    obtain ⟨μ, S, d, ds, rel, hd, hds, p⟩ := h
    simp only [methD] at p
    split at p
    · rename_i es z
      obtain ⟨a, vs, rfl, q, r⟩ := hd.seqF
      obtain ⟨y, rfl, hy⟩ := repL1 hds
      cases (show _ = _ from hy)
      split at p
      · rename_i ys ey
        split at p
        · rename_i j hj
          have ee := strsOf_eq ey
          subst ee
          rw [r.strs] at q
          obtain ⟨⟨w, w1, w2⟩, w3⟩ := findI_some hj
          refine ⟨a, ys.map mkS, mkS z, j, rfl, rfl, hk ▸ q, ?_, fun m hm hz => ?_, p.here rel rfl⟩
          · rw [List.getElem?_map] at w1 ⊢
            obtain ⟨b, b1, b2⟩ := Option.map_eq_some_iff.mp w1
            subst b2
            have : b = z := by simpa [eqF] using w2
            rw [b1, this]; rfl
          · rw [List.getElem?_map] at hz
            obtain ⟨b, b1, b2⟩ := Option.map_eq_some_iff.mp hz
            have := w3 m (.str b) hm (by rw [List.getElem?_map, b1]; rfl)
            have hb : b = z := by simpa [mkS] using b2
            subst hb
            simp [eqF] at this
        · exact p.elim
      · exact p.elim
    · exact p.elim
  | .join => MtR.imp mt_join fun x xs H Q h => by
    obtain ⟨μ, S, d, ds, rel, hd, hds, p⟩ := h
    simp only [methD] at p
    split at p
    · rename_i a x'
      cases (show _ = _ from hd)
      obtain ⟨y, rfl, hy⟩ := repL1 hds
      split at p
      · rename_i es e
        obtain ⟨b, vs, rfl, q, r⟩ := seqOf_rep rel hy e
        split at p
        · rename_i ys ey
          split at p
          · rename_i hl
            have ee := strsOf_eq ey
            subst ee
            rw [r.strs] at q
            refine ⟨mkS a, b, ys.map mkS, rfl, rfl, hk ▸ q, ?_, ?_⟩
            · rw [List.map_map, List.length_map, mkS_len]
              have : (Str.length ∘ mkS) = fun (y : List Nat) => y.length := by funext y; exact mkS_len y
              rw [show ((fun x : Str => x.length) ∘ mkS) = fun (y : List Nat) => y.length from this]; exact hl
            · rw [joinL_eq]; exact p.here rel rfl
          · exact p.elim
        · exact p.elim
      · exact p.elim
    · exact p.elim
  | .scount => MtR.imp mt_count fun x xs H Q h => by
    obtain ⟨μ, S, d, ds, rel, hd, hds, p⟩ := h
    simp only [methD] at p
    split at p
    · cases (show _ = _ from hd)
      obtain ⟨y, rfl, hy⟩ := repL1 hds
      cases (show _ = _ from hy)
      exact ⟨_, _, rfl, rfl, p.here rel rfl⟩
    · exact p.elim
  | .get => by
    intro pins s σ H x xs v us Q I rx rxs h
    obtain ⟨μ, S, d, ds, rel, hd, hds, p⟩ := h
    simp only [methD] at p
    split at p
    · obtain ⟨y, rfl, hy⟩ := repL1 hds
      obtain ⟨u, rfl, ru⟩ := rxs.one
      split at p
      · rename_i o eo
        obtain ⟨a, ov, rfl, g, _, n1, n2⟩ := dGet_rep rel hd hy eo
        cases rx
        refine d_get1 (by omega) I g ru fun w' s' I' r' => ⟨_, H, I', r', ?_⟩
        cases o with
        | none => rw [n1 rfl]; exact p.here rel rfl
        | some w => obtain ⟨u, e, ru⟩ := n2 w rfl; rw [e]; exact p.here rel ru
      · exact p.elim
    · obtain ⟨y, z, rfl, hy, hz⟩ := repL2 hds
      obtain ⟨u, u2, rfl, ru, ru2⟩ := rxs.two
      split at p
      · rename_i o eo
        obtain ⟨a, ov, rfl, g, _, n1, n2⟩ := dGet_rep rel hd hy eo
        cases rx
        refine d_get2 (by omega) I g ru ru2 fun w' s' I' r' => ⟨_, H, I', r', ?_⟩
        cases o with
        | none => rw [n1 rfl]; exact p.here rel hz
        | some w => obtain ⟨u, e, ru⟩ := n2 w rfl; rw [e]; exact p.here rel ru
      · exact p.elim
    · exact p.elim
end
end Ev
end
section
set_option Elab.async false
set_option linter.all false
set_option maxRecDepth 100000
set_option maxHeartbeats 4000000
set_option autoImplicit false
/-! Ev, part C: zip and enumerate over lists, tuples, texts in any mix. -/
namespace Ev
open PySem PySem.Spec PyProof.Rows L2

/-- what a side of a zip draws from -/
inductive Sd where
  | l (a : Addr) | t (a : Addr) | s (z : Str)
def Sd.v : Sd → V
  | .l a => .ref a
  | .t a => .ref a
  | .s z => .str z
def Sd.ok (K : PySem.W.Frag) (H : Hp) : Sd → Prop
  | .l a => ∃ xs, SqL K H a xs
  | .t a => ∃ xs, SqT K H a xs
  | .s _ => True
/-- it has an item i, and which -/
def Sd.go (K : PySem.W.Frag) (H : Hp) (i : Nat) : Sd → Prop
  | .l a => ∃ xs x, SqL K H a xs ∧ xs[i]? = some x
  | .t a => ∃ xs x, SqT K H a xs ∧ xs[i]? = some x
  | .s z => ∃ c, z.cps[i]? = some c
def Sd.at (K : PySem.W.Frag) (H : Hp) (i : Nat) (x : V) : Sd → Prop
  | .l a => ∀ xs, SqL K H a xs → xs[i]? = some x
  | .t a => ∀ xs, SqT K H a xs → xs[i]? = some x
  | .s z => ∃ c, z.cps[i]? = some c ∧ x = .str ⟨#[c]⟩
def Sd.stop (K : PySem.W.Frag) (H : Hp) (i : Nat) : Sd → Prop
  | .l a => ∃ xs, SqL K H a xs ∧ xs.length = i
  | .t a => ∃ xs, SqT K H a xs ∧ xs.length = i
  | .s z => z.cps.size = i
def Sd.it (it : Addr) (i : Nat) (h : Heap) : Sd → Prop
  | .l a => h.IsListIter it a i
  | .t a => h.IsTupleIter it a i
  | .s z => ∃ t, h.IsStrIter it (strIterType z) z t i
theorem Sd.it_at {it : Addr} {i : Nat} {h h' : Heap} : ∀ {sd : Sd}, sd.it it i h → (∀ o, h.get? it = some o → h'.get? it = some o) → sd.it it i h'
  | .l _, st, k => st.at k
  | .t _, st, k => st.at k
  | .s _, ⟨tk, o, e, c, d⟩, k => ⟨tk, o, k o e, c, d⟩
theorem Sd.it_obj {it : Addr} {i : Nat} {h : Heap} : ∀ {sd : Sd}, sd.it it i h → ∃ o, h.get? it = some o ∧ ∀ v, o.data ≠ .cell v
  | .l _, ⟨o, e, _, d⟩ => ⟨o, e, fun v q => by rw [d] at q; cases q⟩
  | .t _, ⟨o, e, _, d⟩ => ⟨o, e, fun v q => by rw [d] at q; cases q⟩
  | .s _, ⟨tk, o, e, _, d⟩ => ⟨o, e, fun v q => by rw [d] at q; cases q⟩

section
variable {X : Cx} {pins : List (Addr × Obj)} {σ : L2.St} {H : Hp} {s : Shared}
theorem apart_K {a b : Addr} {o : Obj} (I : Inv X pins σ H s) (h : X.K.lookup a = some o) (hf : FpOk X pins H b) : a ≠ b := by
  rintro rfl
  have e := I.ok.mod.kin a o h
  obtain ⟨h1, _⟩ := I.ok.bs a o e
  rcases hf.2.2.2.1 with z | z
  · exact I.ok.noex a o e z
  · exact absurd (Nat.lt_of_lt_of_le (Heap.lt_size h1) z) (Nat.lt_irrefl _)
theorem apart_L {a b : Addr} {xs : List V} (I : Inv X pins σ H s) (h : SqL X.K H a xs) (hf : FpOk X pins H b) : a ≠ b := by
  rcases h with (h | ⟨o, h⟩) | ⟨o, its, n, h, _⟩
  · exact ne_of_none h hf.1
  · exact ne_of_none h hf.1
  · exact apart_K I h hf
theorem apart_T {a b : Addr} {xs : List V} (I : Inv X pins σ H s) (h : SqT X.K H a xs) (hf : FpOk X pins H b) : a ≠ b := by
  rcases h with (h | ⟨o, h⟩) | ⟨o, its, n, h, _⟩
  · exact ne_of_none h hf.1
  · exact ne_of_none h hf.1
  · exact apart_K I h hf
/-- what a side draws, from a state of ours -/
structure Drw (X : Cx) (pins : List (Addr × Obj)) (H : Hp) (s : Shared) (sd : Sd) (it : Addr) (i : Nat) (n : Nat) (fp : List Addr) (P : Nat → Value → Prop) (St : Nat → Heap → Prop) : Prop where
  d : Draws X.prog X.w X.A.in1 it fp n P St
  st : St i s.heap
  mem : it ∈ fp
  ap : ∀ b ∈ fp, b = it ∨ ∀ c, FpOk X pins H c → b ≠ c
  nx : ∀ h', St (i + 1) h' → sd.it it (i + 1) h'
  val : ∀ u, P i u → ∃ x, RelV x u ∧ sd.at X.K H i x
theorem drw (I : Inv X pins σ H s) (hc : X.calm = true) {sd : Sd} {it : Addr} {i : Nat} (hf : FpOk X pins H it) (st : sd.it it i s.heap) (g : sd.go X.K H i ∨ sd.stop X.K H i) :
    ∃ n fp P St, Drw X pins H s sd it i n fp P St ∧ (sd.go X.K H i → i < n) ∧ (sd.stop X.K H i → n = i) := by
  have hh : X.A.in1.handled = none := I.ok.hd hc
  cases sd with
  | l a =>
    obtain ⟨xs, hx⟩ : ∃ xs, SqL X.K H a xs := by
      rcases g with ⟨xs, x, q, _⟩ | ⟨xs, q, _⟩ <;> exact ⟨xs, q⟩
    obtain ⟨its, rv, p, _⟩ := I.list hx
    have hl := rv.length
    refine ⟨_, _, _, _, ⟨Draws.list hh it a (apart_L I hx hf) its.toArray, ⟨st, p.isList⟩, by simp, fun b hb => ?_, fun h' z => z.1, fun u hu => ?_⟩, fun ⟨ys, y, q, e⟩ => ?_, fun ⟨ys, q, e⟩ => ?_⟩
    · have hb : b = it ∨ b = a := by simpa using hb
      exact hb.imp id fun (e : b = a) c hc => by subst e; exact apart_L I hx hc
    · obtain ⟨j, hj⟩ : ∃ x, xs[i]? = some x := by
        have : i < its.length := by have := (Array.getElem?_eq_some_iff.mp hu).1; simpa using this
        exact ⟨xs[i]'(by omega), List.getElem?_eq_getElem (by omega)⟩
      obtain ⟨u', hu', ru⟩ := rv.get hj
      have : u = u' := by
        rw [List.getElem?_toArray] at hu
        rw [hu] at hu'; exact Option.some.inj hu'
      subst this
      exact ⟨_, ru, fun zs hz => by rw [I.list_inj hz hx]; exact hj⟩
    · rw [I.list_inj q hx] at e
      have := (List.getElem?_eq_some_iff.mp e).1
      simp; omega
    · rw [I.list_inj q hx] at e
      simp; omega
  | t a =>
    obtain ⟨xs, hx⟩ : ∃ xs, SqT X.K H a xs := by
      rcases g with ⟨xs, x, q, _⟩ | ⟨xs, q, _⟩ <;> exact ⟨xs, q⟩
    obtain ⟨its, rv, p, _⟩ := I.tuple hx
    have hl := rv.length
    refine ⟨_, _, _, _, ⟨Draws.tuple hh it a (apart_T I hx hf) its.toArray, ⟨st, p⟩, by simp, fun b hb => ?_, fun h' z => z.1, fun u hu => ?_⟩, fun ⟨ys, y, q, e⟩ => ?_, fun ⟨ys, q, e⟩ => ?_⟩
    · have hb : b = it ∨ b = a := by simpa using hb
      exact hb.imp id fun (e : b = a) c hc => by subst e; exact apart_T I hx hc
    · obtain ⟨j, hj⟩ : ∃ x, xs[i]? = some x := by
        have : i < its.length := by have := (Array.getElem?_eq_some_iff.mp hu).1; simpa using this
        exact ⟨xs[i]'(by omega), List.getElem?_eq_getElem (by omega)⟩
      obtain ⟨u', hu', ru⟩ := rv.get hj
      have : u = u' := by
        rw [List.getElem?_toArray] at hu
        rw [hu] at hu'; exact Option.some.inj hu'
      subst this
      exact ⟨_, ru, fun zs hz => by rw [I.tuple_inj hz hx]; exact hj⟩
    · rw [I.tuple_inj q hx] at e
      have := (List.getElem?_eq_some_iff.mp e).1
      simp; omega
    · rw [I.tuple_inj q hx] at e
      simp; omega
  | s z =>
    obtain ⟨t, st⟩ := st
    refine ⟨_, _, _, _, ⟨Draws.text hh it z t, st, by simp, fun b hb => .inl (by simpa using hb), fun h' q => ⟨t, q⟩, fun u ⟨c, tk, e1, e2⟩ => ⟨.str ⟨#[c]⟩, ⟨tk, e2⟩, c, e1, rfl⟩⟩, fun ⟨c, e⟩ => (Array.getElem?_eq_some_iff.mp e).1, fun e => e⟩
end

/-- both sides as they stand at each turn, in new pairs -/
def Jzip (K : PySem.W.Frag) (a b : Sd) : It :=
  ⟨fun i H => a.go K H i ∧ b.go K H i,
    fun i H v H' => ∃ T x y, v = .ref T ∧ H T = none ∧ H' = upd H T (.tup [x, y]) ∧ a.at K H i x ∧ b.at K H i y,
    fun i H => (a.stop K H i ∧ (b.stop K H i ∨ b.go K H i)) ∨ (b.stop K H i ∧ (a.stop K H i ∨ a.go K H i))⟩
structure ZC (z TI TO i1 i2 : Addr) : Prop where
  a : TI ≠ z
  b : TO ≠ z
  c : TI ≠ TO
  d : TI ≠ i1
  e : TI ≠ i2
  f : z ≠ i1
  g : z ≠ i2
  h : TO ≠ i1
  k : TO ≠ i2
  l : i1 ≠ i2
theorem turn_zipG {P : Program} {w : World} {K : PySem.W.Frag} {elts : List Expr} {kk : Nat} {tpos : Pos} {a b : Sd} {z TI TO i1 i2 : Addr} (D : ZC z TI TO i1 i2) :
    Turn P w K (.Tuple elts kk tpos) (Jzip K a b) [z, TI, TO, i1, i2] z (fun i h => IsZip h z TI TO .none ∧ IsTupOf2 h TI (.ref i1) (.ref i2) ∧ (∃ x y, IsTupOf2 h TO x y) ∧ a.it i1 i h ∧ b.it i2 i h) := by
  have sep : ∀ {X : Cx} {pins : List (Addr × Obj)} {H : Hp} {s : Shared} {i n1 n2 : Nat} {fp1 fp2 : List Addr} {P1 P2 : Nat → Value → Prop} {S1 S2 : Nat → Heap → Prop}, (∀ c ∈ [z, TI, TO, i1, i2], FpOk X pins H c) →
      Drw X pins H s a i1 i n1 fp1 P1 S1 → Drw X pins H s b i2 i n2 fp2 P2 S2 → ZipSep2 z TI TO i1 i2 fp1 fp2 := by
    intro X pins H s i n1 n2 fp1 fp2 P1 P2 S1 S2 hf d1 d2
    have ne1 : ∀ c ∈ [z, TI, TO, i1, i2], c ≠ i1 → c ∉ fp1 := fun c hc hne hm => by
      rcases d1.ap c hm with e | e
      · exact hne e
      · exact e c (hf c hc) rfl
    have ne2 : ∀ c ∈ [z, TI, TO, i1, i2], c ≠ i2 → c ∉ fp2 := fun c hc hne hm => by
      rcases d2.ap c hm with e | e
      · exact hne e
      · exact e c (hf c hc) rfl
    exact ⟨D.a, D.b, D.c, D.d, d1.mem, ne1 z (by simp) D.f, ne1 TO (by simp) D.h, D.e, d2.mem, ne2 z (by simp) D.g, ne2 TO (by simp) D.k, ne2 i1 (by simp) D.l, ne1 i2 (by simp) (Ne.symm D.l)⟩
  exact {
    mem := by simp
    obj := fun i h st c hc => by
      obtain ⟨hz, hTI, ⟨x, y, hTO⟩, h1, h2⟩ := st
      have e' : c = z ∨ c = TI ∨ c = TO ∨ c = i1 ∨ c = i2 := by simpa using hc
      rcases e' with q | q | q | q | q
      · rw [q]; exact ⟨_, hz, fun v q => nomatch q⟩
      · rw [q]; exact ⟨_, hTI, fun v q => nomatch q⟩
      · rw [q]; exact ⟨_, hTO, fun v q => nomatch q⟩
      · rw [q]; exact Sd.it_obj h1
      · rw [q]; exact Sd.it_obj h2
    keep := fun i h h' st k => by
      obtain ⟨hz, hTI, ⟨x, y, hTO⟩, h1, h2⟩ := st
      exact ⟨k z (by simp) _ hz, k TI (by simp) _ hTI, ⟨x, y, k TO (by simp) _ hTO⟩, Sd.it_at h1 fun o q => k i1 (by simp) o q, Sd.it_at h2 fun o q => k i2 (by simp) o q⟩
    item := by
      intro X hP hw hK hc i pins s σ H E I hf st hg
      subst hP hw hK
      obtain ⟨hz, hTI, ⟨x0, y0, hTO⟩, h1, h2⟩ := st
      obtain ⟨n1, fp1, P1, S1, d1, l1, _⟩ := drw I hc (hf i1 (by simp)) h1 (.inl hg.1)
      obtain ⟨n2, fp2, P2, S2, d2, l2, _⟩ := drw I hc (hf i2 (by simp)) h2 (.inl hg.2)
      have W := WalksT.zipD2 (sep hf d1 d2) d1.d d2.d
      have m1 := l1 hg.1
      have m2 := l2 hg.2
      refine W.item i s _ _ (by omega) ⟨hz, hTI, ⟨_, _, hTO⟩, d1.st, d2.st⟩ fun T vals h' tk hp hT hTv hm hk => ?_
      obtain ⟨u1, u2, p1, p2, rfl⟩ := hp
      obtain ⟨x, rx, ax⟩ := d1.val u1 p1
      obtain ⟨y, ry, ay⟩ := d2.val u2 p2
      have hap := W.apart i T h' hm
      refine ⟨_, rfl, W.go elts kk tpos i T { s with heap := h', toks := tk } _ _ hm fun h'' st2 hk2 => ?_⟩
      have hTv2 : h''.IsTuple T #[u1, u2] := hTv.at fun o e => hk2 T o hap e
      have wr : ∀ c, c ∈ [z, TO, i1, i2] → c ∈ [z, TI, TO, i1, i2] := fun c h => by
        have : c = z ∨ c = TO ∨ c = i1 ∨ c = i2 := by simpa using h
        rcases this with e | e | e | e <;> simp [e]
      have new : ObjOk X.prog X.w (upd H T (.tup [x, y])) h'' T (.tup [x, y]) :=
        ⟨by show 2 ≤ sizeLine; decide, [u1, u2], .cons rx (.cons ry .nil), hTv2⟩
      have I1 : Inv X pins σ (upd H T (.tup [x, y])) { s with heap := h'', toks := tk } :=
        I.turnedNew (t' := tk) (ch := [z, TI, TO, i1, i2]) (fun c o hb q => hk2 c o (fun z => hb (wr c z)) (hk c o (fun z => hb (wr c z)) q)) hf hT new
      obtain ⟨g1, g2, g3, g4, g5⟩ := st2
      refine ⟨.ref T, _, I1, rfl, ⟨T, x, y, rfl, I.hok.fresh hT, rfl, ax, ay⟩, ⟨g1, g2, g3, d1.nx _ g4, d2.nx _ g5⟩, fun c hcm => ?_⟩
      have hlt : c < s.heap.objs.size := by
        have e' : c = z ∨ c = TI ∨ c = TO ∨ c = i1 ∨ c = i2 := by simpa using hcm
        rcases e' with q | q | q | q | q
        · rw [q]; exact Heap.lt_size hz
        · rw [q]; exact Heap.lt_size hTI
        · rw [q]; exact Heap.lt_size hTO
        · rw [q]; obtain ⟨_, e1, _⟩ := Sd.it_obj h1; exact Heap.lt_size e1
        · rw [q]; obtain ⟨_, e1, _⟩ := Sd.it_obj h2; exact Heap.lt_size e1
      rw [upd_ne (Nat.ne_of_lt (Nat.lt_of_lt_of_le hlt hT))]
      exact (hf c hcm).1
    done := by
      intro X hP hw hK hc i pins s σ H E I hf st hg
      subst hP hw hK
      obtain ⟨hz, hTI, ⟨x0, y0, hTO⟩, h1, h2⟩ := st
      have ga : a.go X.K H i ∨ a.stop X.K H i := by rcases hg with ⟨q, _⟩ | ⟨_, q | q⟩; exact .inr q; exact .inr q; exact .inl q
      have gb : b.go X.K H i ∨ b.stop X.K H i := by rcases hg with ⟨_, q | q⟩ | ⟨q, _⟩; exact .inr q; exact .inl q; exact .inr q
      obtain ⟨n1, fp1, P1, S1, d1, l1, m1⟩ := drw I hc (hf i1 (by simp)) h1 ga
      obtain ⟨n2, fp2, P2, S2, d2, l2, m2⟩ := drw I hc (hf i2 (by simp)) h2 gb
      have hh : i ≤ n1 ∧ i ≤ n2 ∧ (i = n1 ∨ i = n2) := by
        rcases hg with ⟨q, q2 | q2⟩ | ⟨q, q2 | q2⟩
        · have := m1 q; have := m2 q2; omega
        · have := m1 q; have := l2 q2; omega
        · have := m2 q; have := m1 q2; omega
        · have := m2 q; have := l1 q2; omega
      refine wpAny_pyNext_zipD2_end (sep hf d1 d2) d1.d d2.d hz hTI hTO d1.st d2.st hh.1 hh.2.1 hh.2.2 fun h' tk hk => ⟨rfl, I.turnedL (t' := tk) (ch := [z, TI, TO, i1, i2]) (fun c o hb q =>
        hk c o (fun q' => hb (by simp [q'])) (fun q' => hb (by simp [q'])) (fun q' => hb (by simp [q'])) (fun q' => hb (by simp [q'])) q) hf⟩
    self := fun A i s Q E st h => wpAny_pyIter_zip st.1 h }
end Ev
end
section
set_option Elab.async false
set_option linter.all false
set_option maxRecDepth 100000
set_option maxHeartbeats 4000000
set_option autoImplicit false
/-! Ev, part C2: the calls zip(..), enumerate(..). -/
namespace Ev
open PySem PySem.Spec PyProof.Rows L2
open Builtin in
theorem meets_enum1 {v : Value} {o : Obj} {H : Heap → Prop} (B : Begins v o H) :
    Meets (Builtin.«enumerate.__new__» ⟨[.type "enumerate", v], []⟩) (fun _ R s => H s.heap ∧
      R (.ok (.ret (.ref (s.heap.push o).objs.size))) { s with heap := (s.heap.push o).push { cls := .type "enumerate", data := .fields #[.none, .bool false, .ref s.heap.objs.size, rawInt 0, .none, .none] } }) :=
  .of_wp fun prog w A R s h => by
    obtain ⟨hp, g, d, tk, os⟩ := s; obtain ⟨h1, h⟩ := h
    have hsub := sub_enumerate
    have q1 : ∀ {A' : Around} {E : Value → Shared → Prop} {Q : Value → Shared → Prop}, Q (.ref hp.objs.size) ⟨hp.push o, g, d, tk, os⟩ → wpAny (model prog w) A' (pyIter v) Q E ⟨hp, g, d, tk, os⟩ :=
      fun q => B.iter prog w _ _ ⟨hp, g, d, tk, os⟩ _ h1 q
    wp_walk using q1
    refine wpAny_stack_any fun st => wpAny_pure ?_
    split
    · rename_i c _ _ _ _ _
      cases (c == Value.type "enumerate")
      · wp_walk using q1
        exact ⟨_, rfl, h⟩
      · wp_walk using q1
        exact ⟨_, rfl, h⟩
    · wp_walk using q1
      exact ⟨_, rfl, h⟩
theorem enum_begins1 {prog : Program} {w : World} {A : Around} {E : Value → Shared → Prop} {s : Shared} {v : Value} {o : Obj} {H : Heap → Prop} {Q : Value → Shared → Prop} (B : Begins v o H) (h1 : H s.heap)
    (h : ∀ h', IsEnum h' (s.heap.objs.size + 1) s.heap.objs.size 0 .none → h'.get? s.heap.objs.size = some o → h'.objs.size = s.heap.objs.size + 2 →
      (∀ b o, s.heap.get? b = some o → h'.get? b = some o) → Q (.ref (s.heap.objs.size + 1)) { s with heap := h' }) :
    wpAny (model prog w) A (call (.type "enumerate") [v]) Q E s := by
  refine callType_new F.called_enumerate (by decide) (F.typeCall_enumerate_1 _) (F.newCall_enumerate_1 _) (fun obj => F.args_object_init_2 obj _) F.entry_enumerate_new
    (meets_enum1 B) ⟨h1, ?_⟩
  have hz : (s.heap.push o).objs.size = s.heap.objs.size + 1 := Heap.size_push ..
  show _ ∧ _
  rw [hz]
  have he : IsEnum ((s.heap.push o).push { cls := .type "enumerate", data := .fields #[.none, .bool false, .ref s.heap.objs.size, rawInt 0, .none, .none] }) (s.heap.objs.size + 1) s.heap.objs.size 0 .none := by
    have := Heap.get?_push_size (s.heap.push o) (o := { cls := .type "enumerate", data := .fields #[.none, .bool false, .ref s.heap.objs.size, rawInt 0, .none, .none] }) rfl
    rw [hz] at this; exact this
  refine ⟨⟨_, he, rfl⟩, h _ he (Heap.get?_push_of_some _ (Heap.get?_push_size _ B.free)) (by rw [Heap.size_push, hz]) fun b o x => Heap.get?_push_of_some _ (Heap.get?_push_of_some _ x)⟩

section
variable {X : Cx} {pins : List (Addr × Obj)} {σ : L2.St} {H : Hp} {s : Shared}
theorem sd_begins (I : Inv X pins σ H s) {sd : Sd} {v : Value} (ok : sd.ok X.K H) (r : RelV sd.v v) :
    ∃ o Hh, Begins v o Hh ∧ Hh s.heap ∧ ∀ (h' : Heap) (it : Addr), h'.get? it = some o → sd.it it 0 h' := by
  cases sd with
  | l a =>
    obtain ⟨xs, hx⟩ := ok
    obtain ⟨its, rv, p, _⟩ := I.list hx
    cases r
    exact ⟨_, _, begins_list a its.toArray, p.isList, fun h' it e => ⟨_, e, rfl, rfl⟩⟩
  | t a =>
    obtain ⟨xs, hx⟩ := ok
    obtain ⟨its, rv, p, _⟩ := I.tuple hx
    cases r
    exact ⟨_, _, begins_tuple a its.toArray, p, fun h' it e => ⟨_, e, rfl, rfl⟩⟩
  | s z =>
    obtain ⟨t, rfl⟩ := r
    exact ⟨_, _, begins_text z t, trivial, fun h' it e => ⟨t, _, e, rfl, rfl⟩⟩
end
def iZipG (K : PySem.W.Frag) (ta : TA) : TI := fun σ H R => ta σ H fun vs H1 => ∃ a b : Sd, vs = [a.v, b.v] ∧ a.ok K H1 ∧ b.ok K H1 ∧ R (Jzip K a b) H1
theorem pi_zipG {X : Cx} {e e2 : Expr} {ta : TA} {p pos tpos : Pos} {elts : List Expr} {kk : Nat} (hg : Gl X "zip") (hm : X.mg "zip" = none) (ha : PA X [e, e2] ta)
    (hs : starEach [e, e2] X.env = (false, eval e X.env) :: starEach [e2] X.env := by rfl) (hpl : (backTo pos (starEach [e2] X.env)).any (·.1) = false := by rfl) :
    PI X (.Tuple elts kk tpos) (.Call (.Name "zip" p) [e, e2] [] pos) (iZipG X.K ta) := by
  refine ⟨fun pins s σ H R I h => ?_⟩
  refine Call_ (ld_blt I hg hm PyProof.Rows.boot_zip (PyProof.Rows.callWith_type1 (thn (ha.run pos pins s σ H _ I h) fun us s1 ⟨vs, H1, I1, r1, q1⟩ => ?_) hs hpl))
  obtain ⟨a, b, rfl, oka, okb, q⟩ := q1
  obtain ⟨u1, u2, rfl, ra, rb⟩ := r1.two
  obtain ⟨o1, H1', B1, hb1, t1⟩ := sd_begins I1 oka ra
  obtain ⟨o2, H2', B2, hb2, t2⟩ := sd_begins I1 okb rb
  refine zip_begins2 B1 B2 hb1 hb2 fun h' hz hTI hTO h1 h2 hsz hk => wpAny_pyIter_zip hz ?_
  have I2 : Inv X pins σ H1 { s1 with heap := h' } := I1.kept (t' := s1.toks) hk
  refine ⟨s1.heap.objs.size + 4, [s1.heap.objs.size + 4, s1.heap.objs.size + 2, s1.heap.objs.size + 3, s1.heap.objs.size, s1.heap.objs.size + 1], _, _, H1, rfl, I2,
    turn_zipG (z := s1.heap.objs.size + 4) (TI := s1.heap.objs.size + 2) (TO := s1.heap.objs.size + 3) (i1 := s1.heap.objs.size) (i2 := s1.heap.objs.size + 1) ?_, ⟨hz, hTI, ⟨_, _, hTO⟩, t1 _ _ h1, t2 _ _ h2⟩, fun c hcm => ?_, q⟩
  · generalize hN : s1.heap.objs.size = N
    exact ⟨show (N + 2 : Nat) ≠ N + 4 by omega, show (N + 3 : Nat) ≠ N + 4 by omega, show (N + 2 : Nat) ≠ N + 3 by omega, show (N + 2 : Nat) ≠ N by omega, show (N + 2 : Nat) ≠ N + 1 by omega,
      show (N + 4 : Nat) ≠ N by omega, show (N + 4 : Nat) ≠ N + 1 by omega, show (N + 3 : Nat) ≠ N by omega, show (N + 3 : Nat) ≠ N + 1 by omega, show (N : Nat) ≠ N + 1 by omega⟩
  · have e' : c = s1.heap.objs.size + 4 ∨ c = s1.heap.objs.size + 2 ∨ c = s1.heap.objs.size + 3 ∨ c = s1.heap.objs.size ∨ c = s1.heap.objs.size + 1 := by simpa using hcm
    have hle : s1.heap.objs.size ≤ c := by
      rcases e' with z | z | z | z | z
      · rw [z]; exact Nat.le_add_right _ _
      · rw [z]; exact Nat.le_add_right _ _
      · rw [z]; exact Nat.le_add_right _ _
      · rw [z]; exact Nat.le_refl _
      · rw [z]; exact Nat.le_add_right _ _
    exact I1.fpOk hle (I1.hok.fresh hle)

/-- enumerate: the items in new pairs, their places ahead -/
def Jenum (K : PySem.W.Frag) (a : Sd) : It :=
  ⟨fun i H => a.go K H i,
    fun i H v H' => ∃ T x, v = .ref T ∧ H T = none ∧ H' = upd H T (.tup [.int (i : Nat), x]) ∧ a.at K H i x,
    fun i H => a.stop K H i⟩
theorem turn_enumG {P : Program} {w : World} {K : PySem.W.Frag} {elts : List Expr} {kk : Nat} {tpos : Pos} {a : Sd} {e it : Addr} (D : e ≠ it) :
    Turn P w K (.Tuple elts kk tpos) (Jenum K a) [e, it] e (fun i h => (∃ old, IsEnum h e it (0 + (i : Int)) old) ∧ a.it it i h) := by
  have sep : ∀ {X : Cx} {pins : List (Addr × Obj)} {H : Hp} {s : Shared} {i n1 : Nat} {fp1 : List Addr} {P1 : Nat → Value → Prop} {S1 : Nat → Heap → Prop}, (∀ c ∈ [e, it], FpOk X pins H c) →
      Drw X pins H s a it i n1 fp1 P1 S1 → e ∉ fp1 := by
    intro X pins H s i n1 fp1 P1 S1 hf d1 hm
    rcases d1.ap e hm with q | q
    · exact D q
    · exact q e (hf e (by simp)) rfl
  exact {
    mem := by simp
    obj := fun i h st c hc => by
      obtain ⟨⟨old, he⟩, h1⟩ := st
      have e' : c = e ∨ c = it := by simpa using hc
      rcases e' with q | q
      · rw [q]; exact ⟨_, he, fun v q => nomatch q⟩
      · rw [q]; exact Sd.it_obj h1
    keep := fun i h h' st k => by
      obtain ⟨⟨old, he⟩, h1⟩ := st
      exact ⟨⟨old, k e (by simp) _ he⟩, Sd.it_at h1 fun o q => k it (by simp) o q⟩
    item := by
      intro X hP hw hK hc i pins s σ H E I hf st hg
      subst hP hw hK
      obtain ⟨he, h1⟩ := st
      obtain ⟨n1, fp1, P1, S1, d1, l1, _⟩ := drw I hc (hf it (by simp)) h1 (.inl hg)
      have W := WalksT.enumFrom 0 d1.d e D (sep hf d1) d1.mem
      refine W.item i s _ _ (l1 hg) ⟨he, d1.st⟩ fun T vals h' tk hp hT hTv hm hk => ?_
      obtain ⟨t, u, p1, rfl⟩ := hp
      obtain ⟨x, rx, ax⟩ := d1.val u p1
      have hap := W.apart i T h' hm
      refine ⟨_, rfl, W.go elts kk tpos i T { s with heap := h', toks := tk } _ _ hm fun h'' st2 hk2 => ?_⟩
      have hTv2 : h''.IsTuple T #[.int (0 + (i : Int)) t, u] := hTv.at fun o e => hk2 T o hap e
      have new : ObjOk X.prog X.w (upd H T (.tup [.int (i : Nat), x])) h'' T (.tup [.int (i : Nat), x]) :=
        ⟨by show 2 ≤ sizeLine; decide, [.int (0 + (i : Int)) t, u], .cons ⟨t, by rw [Int.zero_add]⟩ (.cons rx .nil), hTv2⟩
      have I1 : Inv X pins σ (upd H T (.tup [.int (i : Nat), x])) { s with heap := h'', toks := tk } :=
        I.turnedNew (t' := tk) (ch := [e, it]) (fun c o hb q => hk2 c o hb (hk c o hb q)) hf hT new
      obtain ⟨g1, g2⟩ := st2
      refine ⟨.ref T, _, I1, rfl, ⟨T, x, rfl, I.hok.fresh hT, rfl, ax⟩, ⟨g1, d1.nx _ g2⟩, fun c hcm => ?_⟩
      have hlt : c < s.heap.objs.size := by
        have e' : c = e ∨ c = it := by simpa using hcm
        rcases e' with q | q
        · rw [q]; obtain ⟨_, he⟩ := he; exact Heap.lt_size he
        · rw [q]; obtain ⟨_, e1, _⟩ := Sd.it_obj h1; exact Heap.lt_size e1
      rw [upd_ne (Nat.ne_of_lt (Nat.lt_of_lt_of_le hlt hT))]
      exact (hf c hcm).1
    done := by
      intro X hP hw hK hc i pins s σ H E I hf st hg
      subst hP hw hK
      obtain ⟨he, h1⟩ := st
      obtain ⟨n1, fp1, P1, S1, d1, l1, m1⟩ := drw I hc (hf it (by simp)) h1 (.inr hg)
      have W := WalksT.enumFrom 0 d1.d e D (sep hf d1) d1.mem
      have hn := m1 hg
      subst hn
      exact W.done s _ _ ⟨he, d1.st⟩ fun h' tk hk => ⟨rfl, I.turnedL (t' := tk) (ch := [e, it]) (fun c o hb q => hk c o hb q) hf⟩
    self := fun A i s Q E st h => by obtain ⟨⟨_, he⟩, _⟩ := st; exact wpAny_pyIter_enum he h }
def iEnumG (K : PySem.W.Frag) (ta : TA) : TI := fun σ H R => ta σ H fun vs H1 => ∃ a : Sd, vs = [a.v] ∧ a.ok K H1 ∧ R (Jenum K a) H1
theorem pi_enumG {X : Cx} {e : Expr} {ta : TA} {p pos tpos : Pos} {elts : List Expr} {kk : Nat} (hg : Gl X "enumerate") (hm : X.mg "enumerate" = none) (ha : PA X [e] ta)
    (hs : starEach [e] X.env = (false, eval e X.env) :: starEach [] X.env := by rfl) :
    PI X (.Tuple elts kk tpos) (.Call (.Name "enumerate" p) [e] [] pos) (iEnumG X.K ta) := by
  refine ⟨fun pins s σ H R I h => ?_⟩
  refine Call_ (ld_blt I hg hm boot_enumerate (PyProof.Rows.callWith_type1 (thn (ha.run pos pins s σ H _ I h) fun us s1 ⟨vs, H1, I1, r1, q1⟩ => ?_) hs rfl))
  obtain ⟨a, rfl, oka, q⟩ := q1
  obtain ⟨u1, rfl, ra⟩ := r1.one
  obtain ⟨o1, H1', B1, hb1, t1⟩ := sd_begins I1 oka ra
  refine enum_begins1 B1 hb1 fun h' he h1 hsz hk => wpAny_pyIter_enum he ?_
  have I2 : Inv X pins σ H1 { s1 with heap := h' } := I1.kept (t' := s1.toks) hk
  refine ⟨s1.heap.objs.size + 1, [s1.heap.objs.size + 1, s1.heap.objs.size], _, _, H1, rfl, I2,
    turn_enumG (Nat.succ_ne_self _), ⟨⟨_, he⟩, t1 _ _ h1⟩, fun b hb => ?_, q⟩
  have e' : b = s1.heap.objs.size + 1 ∨ b = s1.heap.objs.size := by simpa using hb
  have hle : s1.heap.objs.size ≤ b := by
    rcases e' with z | z
    · rw [z]; exact Nat.le_add_right _ _
    · rw [z]; exact Nat.le_refl _
  exact I1.fpOk hle (I1.hok.fresh hle)
end Ev
end
section
set_option Elab.async false
set_option linter.all false
set_option maxRecDepth 100000
set_option maxHeartbeats 4000000
set_option autoImplicit false
/-! Ev, part T: except clauses, some with a name; X() of an own class; __init__ of an own exception. -/
namespace Ev
open PySem PySem.Spec PyProof.Rows L2

def dAs (i : Nat) (D : Ends) : Ends := { nx := fun σ' H' => D.nx (σ'.set i none) H', rt := D.rt, bk := fun σ' H' => D.bk (σ'.set i none) H', ct := fun σ' H' => D.ct (σ'.set i none) H' }
structure Hd where
  c : Value
  nm : Option Nat
  ts : Addr → Value → Option Addr → TS
def wMix (K : PySem.W.Frag) (Wout : WX) (D : Ends) : List Hd → WX
  | [] => Wout
  | h :: r => fun cls d σ H => ∃ b, PySem.W.exmOne K cls h.c = some b ∧
      (b = true → ∀ a, H a = none → match h.nm with
        | none => h.ts a cls d D σ H
        | some i => h.ts a cls d (dAs i D) (σ.set i (some (.ref a))) H) ∧ (b = false → wMix K Wout D r cls d σ H)
inductive HdsMix (X : Cx) : List ExceptHandler → List Hd → Prop
  | nil : HdsMix X [] []
  | cons {x : Str} {c : Value} {n : Option (Str × Nat)} {ts : Addr → Value → Option Addr → TS} {b₀ : Stmt} {suite : List Stmt} {np pos' : Pos} {hds : List ExceptHandler} {l : List Hd} (hc : Names X x c)
      (hn : ∀ q, n = some q → X.N[q.2]? = some q.1 ∧ X.env.kindOf q.1 = some .local)
      (hsu : ∀ (a : Addr) (oe : Obj) (cls : Value) (d : Option Addr) (pn : List (Addr × Obj)), Zc cls d oe → (∃ vs, oe.data = .fields vs) → PSs (X.suite a ((a, oe) :: pn)) (b₀ :: suite) (ts a cls d)) (r : HdsMix X hds l) :
      HdsMix X (.ExceptHandler (some (.Name x np)) (n.map (·.1)) (b₀ :: suite) pos' :: hds) (⟨c, n.map (·.2), ts⟩ :: l)
section
variable {X : Cx} {body : List Stmt} {h₀ : ExceptHandler} {hds : List ExceptHandler} {l : List Hd} {pos : Pos} {tb : WX → TS} {Wout : WX}
theorem ps_try_mix (hs : X.stack = X.env :: X.outer) (hf : X.env.frame = some X.env.locals) (hN : X.N.Nodup) (tk : Takes X Wout)
    (hb : ∀ (W : WX) (pn : List (Addr × Obj)) (xe : Value → Shared → Prop), Takes (X.tr pn xe) W → PassesOwn (model X.prog X.w) X.A X.env xe → PSs (X.tr pn xe) body (tb W))
    (hh : HdsMix X (h₀ :: hds) l) : PS X (.Try body (h₀ :: hds) [] [] pos) (fun D σ H => tb (wMix X.K Wout D l) D σ H) := by
  refine ⟨fun pins s σ H D I h => ?_⟩
  have ok := I.ok
  have hfr : X.A.frames = some (X.env :: X.outer) := by rw [ok.frames, hs]
  refine wpAny_Try_except ?_
  refine wpAny_mono ((hb (wMix X.K Wout D l) (X.pn ++ pins) (fun e s₁ => wpAny (model X.prog X.w) X.A (noteFrame e X.env) (fun _ s₂ => wpAny (model X.prog X.w) X.A (setFlight e none) (fun _ s₃ =>
    wpAny (model X.prog X.w) X.A (handleBy e X.env (h₀ :: hds)) (SP X pins D) X.xe s₃) X.xe s₂) X.xe s₁) (fun u s' xx => ?_) PassesOwn.looking).run [] s σ H D (I.toTry _) h) (fun f s1 hsp => ?_) (fun e s1 he => he)
  · obtain ⟨a, B, sI, pins', σ', H', cls, d, rfl, J', nb, up, sky, na, os, ag, w⟩ := xx
    have J : Inv X pins σ' H' sI := J'.ofTry ok
    have sky' : Sky B (X.env :: X.outer) a (Zc cls d) X.env.locals s'.heap := by rw [← hs]; exact sky
    show wpAny (model X.prog X.w) X.A (noteFrame (.ref a) X.env) _ _ _
    refine Sky.land Zc.steady hfr hf sky' fun h3 fl3 up3 => ?_
    have J3 : Inv X pins σ' H' { s' with heap := h3 } := J.landed nb fl3.1 (up.trans up3) os ag
    obtain ⟨oe3, vs3, he3, hz3, hd3⟩ := fl3.there
    have notFr : ∀ {h : Heap} {o : Obj} {vs : Array Value}, h.FunFrames B (X.env :: X.outer) → h.get? a = some o → o.data = .fields vs → a ∉ frs (X.env :: X.outer) := fun {h o vs} ff e dd hm => by
      obtain ⟨_, o', e', hnf⟩ := ff.mem hm
      rw [e] at e'; cases e'
      exact hnf _ dd
    have nfr := notFr fl3.2.2.1 he3 hd3
    have nL : a ≠ X.env.locals := fun z => nfr (List.mem_filterMap.mpr ⟨X.env, List.mem_cons_self, by rw [hf, z]⟩)
    have nF : a ∉ X.fs := fun hm => by
      obtain ⟨e, he, q⟩ := List.mem_filterMap.mp hm
      exact nfr (List.mem_filterMap.mpr ⟨e, List.mem_cons_of_mem _ he, q⟩)
    have S3 := J3.suite he3 hd3 na nL nF
    have go : ∀ {hds' : List ExceptHandler} {l' : List Hd}, HdsMix X hds' l' → wMix X.K Wout D l' cls d σ' H' →
        wpAny (model X.prog X.w) X.A (handleBy (.ref a) X.env hds') (SP X pins D) X.xe { s' with heap := h3 } := by
      intro hds' l' hk
      induction hk with
      | nil =>
        intro w
        refine wpAny_handleBy_nil ?_
        obtain ⟨k1, k2, k3, oe, vs, T, oT, ts', he, hz, hd, h1, hr⟩ := id fl3
        unfold PySem.passOn
        refine wpAny_bind (wpAny_field he hd h1 ?_)
        rw [if_neg (show ¬ ((Value.ref T == Value.none) = true) from by simp)]
        have fin : wpAny (model X.prog X.w) X.A (setFlight (.ref a) X.env.frame) (fun _ s4 => wpAny (model X.prog X.w) X.A (throw (.ref a) : Sem Flow) (SP X pins D) X.xe s4) X.xe { s' with heap := h3 } := by
          rw [hf]
          refine HandSPX.setFlight_upZ fl3 fun h4 hh4 up4 => wpAny_throw (tk _ _ ?_)
          exact ⟨a, B, sI, pins, σ', H', cls, d, rfl, J, nb, (up.trans up3).trans up4, .inr (.inr (by rw [hs]; exact hh4)), na, os, ag, w⟩
        first
          | exact wpAny_bind (wpAny_pure (wpAny_bind fin))
          | exact wpAny_bind fin
      | @cons x c n ts b₀ suite np pos' hds2 l2 hc hn hsu r ih =>
        intro w
        obtain ⟨b, hb1, hyes, hno⟩ := w
        refine wpAny_handleBy_cons (codeAny_handlers_test ?_) (by intro q; cases q)
        have LT : PySem.W.Looks (model X.prog X.w) h3 (typeOf (.ref a)) cls := fun A Q E s k q => wpAny_typeOf_ref (k _ _ he3) (by rw [hz3.1]; exact q)
        have LM := PySem.W.exm_one (M := model X.prog X.w) (J3.kIn) LT hb1
        have test : ∀ {Q : Value → Shared → Prop} {E : Value → Shared → Prop}, Q c { s' with heap := h3 } → wpAny (model X.prog X.w) (X.A.mark (some (.ref a))) (eval (.Name x np) X.env) Q E { s' with heap := h3 } := fun {Q E} q => by
          obtain ⟨hg, hdbg, hm | ⟨hm, hv, hnn⟩⟩ := hc
          · exact ld_glob (X := X.suite a ((a, oe3) :: (X.pn ++ pins))) S3 hg hm q hdbg
          · exact ld_blt (X := X.suite a ((a, oe3) :: (X.pn ++ pins))) S3 hg hm hv q hnn hdbg
        refine test (LM.here ?_)
        cases b with
        | true =>
          cases n with
          | none =>
            refine codeAny_handlers_suite ?_
            refine HandSPX.lands_againZ fl3 fun h4 fl4 up4 => ?_
            have J4 : Inv X pins σ' H' { s' with heap := h4 } := J.landed nb fl4.1 ((up.trans up3).trans up4) os ag
            obtain ⟨oe4, vs4, he4, hz4, hd4⟩ := fl4.there
            have S4 := J4.suite he4 hd4 na nL nF
            refine wpAny_mono ((hsu a oe4 cls d (X.pn ++ pins) hz4 ⟨_, hd4⟩).run [] _ _ H' _ S4 (hyes rfl a na)) (fun f s6 hsp => ?_) (fun _ _ z => False.elim z)
            cases f with
            | next =>
              obtain ⟨σ6, H6, S6, q6⟩ := hsp
              exact ⟨_, _, S6.unsuite ok, q6⟩
            | brk =>
              obtain ⟨σ6, H6, S6, q6⟩ := hsp
              exact ⟨_, _, S6.unsuite ok, q6⟩
            | cont =>
              obtain ⟨σ6, H6, S6, q6⟩ := hsp
              exact ⟨_, _, S6.unsuite ok, q6⟩
            | ret u =>
              obtain ⟨v6, σ6, H6, S6, r6, q6⟩ := hsp
              exact ⟨_, _, _, S6.unsuite ok, r6, q6⟩
          | some q =>
            obtain ⟨nn, i⟩ := q
            obtain ⟨hi, hln⟩ := hn _ rfl
            have hloc : Loc X.env.scope nn := .inl hln
            refine codeAny_handlers_suite_as ?_
            refine HandSPX.lands_againZ fl3 fun h4 fl4 up4 => ?_
            have J4 : Inv X pins σ' H' { s' with heap := h4 } := J.landed nb fl4.1 ((up.trans up3).trans up4) os ag
            obtain ⟨oe4, vs4, he4, hz4, hd4⟩ := fl4.there
            have S4 := J4.suite he4 hd4 na nL nF
            refine store_ok (X := X.suite a ((a, oe4) :: (X.pn ++ pins))) (v := .ref a) S4 hN hi hloc rfl (fun s5 S5 => ?_) (.inr hln)
            refine wpAny_mono ((hsu a oe4 cls d (X.pn ++ pins) hz4 ⟨_, hd4⟩).run [] s5 _ H' _ S5 (hyes rfl a na)) (fun f s6 hsp => ?_) (fun _ _ z => False.elim z)
            have end_ : ∀ {σ6 : L2.St} {H6 : Hp} {Q : Shared → Prop}, Inv (X.suite a ((a, oe4) :: (X.pn ++ pins))) [] σ6 H6 s6 → (∀ s7, Inv X pins (σ6.set i none) H6 s7 → Q s7) →
                wpAny (model X.prog X.w) X.A (do bindName X.env nn .none; unbindBehindTheSuite X.env nn pos') (fun _ s7 => Q s7) X.xe s6 := fun {σ6 H6 Q} S6 hq => gone_ok (S6.unsuite ok) hN hi hln hq
            cases f with
            | next =>
              obtain ⟨σ6, H6, S6, q6⟩ := hsp
              exact end_ S6 fun s7 J7 => ⟨_, _, J7, q6⟩
            | brk =>
              obtain ⟨σ6, H6, S6, q6⟩ := hsp
              exact end_ S6 fun s7 J7 => ⟨_, _, J7, q6⟩
            | cont =>
              obtain ⟨σ6, H6, S6, q6⟩ := hsp
              exact end_ S6 fun s7 J7 => ⟨_, _, J7, q6⟩
            | ret u =>
              obtain ⟨v6, σ6, H6, S6, r6, q6⟩ := hsp
              exact end_ S6 fun s7 J7 => ⟨_, _, _, J7, r6, q6⟩
        | false =>
          show wpAny _ X.A (handleBy (.ref a) X.env hds2) _ _ _
          exact ih (hno rfl)
    exact go hh w
  · cases f with
    | next =>
      obtain ⟨σ', H', J', q⟩ := hsp
      exact wpAny_execs_nil ⟨σ', H', J'.ofTry ok, q⟩
    | brk =>
      obtain ⟨σ', H', J', q⟩ := hsp
      exact ⟨σ', H', J'.ofTry ok, q⟩
    | cont =>
      obtain ⟨σ', H', J', q⟩ := hsp
      exact ⟨σ', H', J'.ofTry ok, q⟩
    | ret u =>
      obtain ⟨v, σ', H', J', r, q⟩ := hsp
      exact ⟨v, σ', H', J'.ofTry ok, r, q⟩
end

/-- X() of an own exception class without an own __init__ -/
theorem pmk_own0 {X : Cx} {C : Addr} {bmB : List Value} {B newId initId : String} {x : Str} {p pos : Pos} (F : ExcBaseFacts B newId initId bmB) (q : PySem.W.excIn X.K C bmB newId = true) (gC : X.mg x = some (.ref C)) (kC : PySem.W.keepIn X.K (.ref C) = true) (r : Raises X (.ref C)) (hg : Gl X x)
    (hdb : (x == ("__debug__" : Str)) = false := by decide) : PMk X (.Call (.Name x p) [] [] pos) (fun _ H Q => Q (.ref C) none H) := by
  intro pins s σ H Q I h
  refine wpAny_Call_Name_kw (ld_glob I hg gC ?_ hdb)
  refine PySem.W.callWith_K0 I.kIn kC ?_
  show wpAny _ _ (call (.ref C) []) _ _ _
  obtain ⟨bm, N, nm, qn, bs, hdct, sn, sub, ab, col, dd, k0, k1, k2, k3, k5, mN, hC, hN, hni, T⟩ := exc_obj I.kIn q
  refine wpAny_call_exc_subT F T hC hN hni (fun h' e hm => ?_) (Nat.zero_le _)
  exact mk_of I hm r h (I.hok.gone hm.new)
end Ev
end
section
set_option Elab.async false
set_option linter.all false
set_option maxRecDepth 100000
set_option maxHeartbeats 4000000
set_option autoImplicit false
/-! Ev, part B6: sorted. -/
namespace Ev
open PySem PySem.Spec PySem.SeqAt PySem.W PyProof.Rows L2

section
variable {prog : Program} {w : World} {A : Around} {E : Value → Shared → Prop} {s : Shared}
theorem call_tuple_lt {Q : Value → Shared → Prop} {l b : Addr} {items items2 : Array Value} {e r : Nat → Bool} (hl : s.heap.IsTuple l items) (hb : s.heap.IsTuple b items2)
    (he : ∀ j (h1 : j < items.size) (h2 : j < items2.size), EqAt A.in1 s items[j] items2[j] (e j)) (hr : ∀ j (h1 : j < items.size) (h2 : j < items2.size), e j = false → RcLt A.in1 s items[j] items2[j] (r j))
    (h : Q (.bool (firstLt e r (decide (items.size < items2.size)) (List.range (min items.size items2.size)))) s) : wpAny (model prog w) A (call (.builtin "tuple.__lt__") [.ref l, .ref b]) Q E s := by
  obtain ⟨⟨cls, dd, data, sl⟩, ho, hc, n, hd⟩ := id hl
  obtain ⟨⟨cls2, dd2, data2, sl2⟩, ho2, hc2, n2, hd2⟩ := id hb
  simp only at hc hd hc2 hd2
  subst hc hd hc2 hd2
  exact call_meets F.slot_tuple_lt ⟨_, ho, rfl⟩ F.entry_tuple_lt (F.args_tuple_lt_2 _ _) (tuple_ltAt l b items items2 n n2 dd dd2 sl sl2 e r) ⟨ho, ho2, he, hr, h⟩
theorem oneLt_tuples {xs ys : List PyData} {a b : Value} {as bs : List Addr} {Q : Bool → Shared → Prop} (ra : Reads s.heap a (.tuple xs) as) (rb : Reads s.heap b (.tuple ys) bs) (hal : alikeAll xs ys = true)
    (hu : A.units + min (PyData.tuple xs).depth (PyData.tuple ys).depth < cLine) (hq : Q (dataLt (.tuple xs) (.tuple ys)) s) : wpAny (model prog w) A (oneLt' true a b) Q E s := by
  cases ra with
  | @tuple l o vs n _ as₁ h1 h2 h3 h4 =>
    cases rb with
    | @tuple l' o' vs' n' _ bs₁ k1 k2 k3 k4 =>
      have n1 : vs.size = xs.length := by simpa using ReadsAll.length _ _ _ h4
      have n2 : vs'.size = ys.length := by simpa using ReadsAll.length _ _ _ k4
      rw [dataLt_tuple, ← firstLt_toks xs ys hal, ← n1, ← n2] at hq
      rw [oneLt'_eq]
      simp only [if_true]
      refine wpAny_bind (wpAny_cRoomFor (room_here hu) ?_)
      refine wpAny_bind (wpAny_callSpecialIfBound?_slot (T := "tuple") ⟨_, h1, h2⟩ F.slot_tuple_lt (call_tuple_lt (e := pairEq xs ys) (r := fun j => dataLt (xs.getD j .none) (ys.getD j .none)) ⟨_, h1, h2, _, h3⟩ ⟨_, k1, k2, _, k3⟩ (fun j j1 j2 => ?_) (fun j j1 j2 hj => ?_) ?_))
      · have := eqAt_alikeAll xs ys A.in1 s vs.toList vs'.toList _ _ h4 k4 hal (room_in hu) j (by simpa using j1) (by simpa using j2)
        simpa using this
      · have := rcLt_alikeAll xs ys A.in1 s vs.toList vs'.toList _ _ h4 k4 hal (room_in hu) j (by simpa using j1) (by simpa using j2) hj
        simpa using this
      · exact wpAny_truthy_bool hq
theorem mapM_fn {M : Model} {α β : Type} {f : α → Sem β} {r : α → β} : ∀ (l : List α) {Q : List β → Shared → Prop}, (∀ v ∈ l, ∀ (Q' : β → Shared → Prop), Q' (r v) s → wpAny M A (f v) Q' E s) → Q (l.map r) s → wpAny M A (l.mapM f) Q E s
  | [], _, _, h => by rw [List.mapM_nil]; exact wpAny_pure h
  | x :: l, Q, hf, h => by
    rw [List.mapM_cons]
    exact wpAny_bind (hf x (.head _) _ (wpAny_bind (mapM_fn l (Q := fun bs s' => wpAny M A (pure (r x :: bs)) Q E s') (fun v hv => hf v (.tail _ hv)) (wpAny_pure h))))
/-- all are tuples, the first one empty -/
def Tup0 (ds : List PyData) : Prop := ds.head? = some (.tuple []) ∧ ∀ d ∈ ds, ∃ xs, d = .tuple xs
theorem reads_tup {h : Heap} {v : Value} {xs : List PyData} {as : List Addr} (r : Reads h v (.tuple xs) as) : ∃ (a : Addr) (o : Obj) (vs : Array Value) (n : Nat), v = .ref a ∧ h.get? a = some o ∧ o.cls = .type "tuple" ∧ o.data = .seq vs n ∧ vs.size = xs.length := by
  cases r with
  | @tuple l o vs n _ as₁ h1 h2 h3 h4 => exact ⟨l, o, vs, n, rfl, h1, h2, h3, by simpa using ReadsAll.length _ _ _ h4⟩
theorem sorts0 {vs : List Value} {ds : List PyData} (e : EachIs (fun v d => ∃ as, Reads s.heap v d as) vs ds) (hal : AllAlike ds) (hk : Tup0 ds) (hu : ∀ d, d ∈ ds → A.units + d.depth < cLine) : SortsAt prog w A s (dataKind s.heap ds) vs := by
  have room : ∀ {d d' : PyData}, d ∈ ds → A.units + min d.depth d'.depth < cLine := fun {d d'} hd => Nat.lt_of_le_of_lt (Nat.add_le_add_left (Nat.min_le_left _ _) _) (hu d hd)
  refine ⟨fun v hv => ?_, oneType', ?_, fun h2 E Q hq => ?_⟩
  · obtain ⟨d, hd, as, r⟩ := e.left v hv
    exact ⟨_, dataKind_some hal hd r⟩
  · intro E x y a b Q ha hb hq
    obtain ⟨d, as, hd, ra, rfl⟩ := dataKind_inv ha
    obtain ⟨d', as', hd', rb, rfl⟩ := dataKind_inv hb
    rw [keyLt'_oneType]
    obtain ⟨xs, rfl⟩ := hk.2 d hd
    obtain ⟨ys, rfl⟩ := hk.2 d' hd'
    exact oneLt_tuples ra rb (by simpa [alike] using hal _ hd _ hd') (room hd) hq
  · cases e with
    | nil => exact absurd h2 (by simp)
    | @cons v d vr dr h1 t =>
      have hd0 : d = .tuple [] := by have := hk.1; simpa using this
      subst hd0
      have tup : ∀ u ∈ v :: vr, ∃ (a : Addr) (o : Obj) (us : Array Value) (n : Nat), u = .ref a ∧ s.heap.get? a = some o ∧ o.cls = .type "tuple" ∧ o.data = .seq us n := fun u hu => by
        obtain ⟨d, hd, as, r⟩ := (EachIs.cons h1 t).left u hu
        obtain ⟨xs, rfl⟩ := hk.2 d hd
        obtain ⟨a, o, us, n, q1, q2, q3, q4, _⟩ := reads_tup r
        exact ⟨a, o, us, n, q1, q2, q3, q4⟩
      have frst : ∀ u ∈ v :: vr, ∃ r : Option Value, ∀ (Q' : Option Value → Shared → Prop), Q' r s → wpAny (model prog w) A (firstOfTuple' u) Q' E s := fun u hu => by
        obtain ⟨a, o, us, n, rfl, q2, q3, q4⟩ := tup u hu
        refine ⟨us[0]?, fun Q' q => ?_⟩
        rw [kas_first_eq]
        refine wpAny_bind (Looks.here (show Looks (model prog w) s.heap (typeOf (.ref a)) o.cls from (Looks.ld q2).andThen .now) ?_)
        rw [q3, if_neg (by first | decide | simp)]
        exact wpAny_bind (listItems_at q2 q4 (wpAny_pure q))
      have frst0 : ∀ (Q' : Option Value → Shared → Prop), Q' none s → wpAny (model prog w) A (firstOfTuple' v) Q' E s := fun Q' q => by
        obtain ⟨as, r⟩ := h1
        obtain ⟨a, o, us, n, rfl, q2, q3, q4, q5⟩ := reads_tup r
        rw [kas_first_eq]
        refine wpAny_bind (Looks.here (show Looks (model prog w) s.heap (typeOf (.ref a)) o.cls from (Looks.ld q2).andThen .now) ?_)
        rw [q3, if_neg (by first | decide | simp)]
        refine wpAny_bind (listItems_at q2 q4 (wpAny_pure ?_))
        have z : us.size = 0 := q5
        have : us[0]? = none := Array.getElem?_eq_none (Nat.le_of_eq z)
        rw [this]; exact q
      classical
      let r : Value → Option Value := fun u => if u = v then none else if h : u ∈ v :: vr then Classical.choose (frst u h) else none
      have hr : ∀ u ∈ v :: vr, ∀ (Q' : Option Value → Shared → Prop), Q' (r u) s → wpAny (model prog w) A (firstOfTuple' u) Q' E s := fun u hu Q' q => by
        by_cases e : u = v
        · subst e
          have : r u = none := if_pos rfl
          rw [this] at q
          exact frst0 Q' q
        · have : r u = Classical.choose (frst u hu) := (if_neg e).trans (dif_pos hu)
          rw [this] at q
          exact Classical.choose_spec (frst u hu) Q' q
      rw [keyKind'_eq, List.mapM_toArray, map_eq_pure_bind]
      refine wpAny_bind (wpAny_bind (mapM_fn (r := r) _ hr (wpAny_pure ?_)))
      have hv0 : r v = none := if_pos rfl
      have f0 : (List.map r (v :: vr)).toArray[0]? = some none := by simp [hv0]
      rw [if_neg (by simp [hv0]), if_neg (by rw [f0]; simp)]
      rw [oneTypeOnly'_eq, List.mapM_toArray, map_eq_pure_bind]
      have hT : ∀ u ∈ v :: vr, ∀ (Q' : Value → Shared → Prop), Q' (Value.type "tuple") s → wpAny (model prog w) A (typeOf u) Q' E s := fun u hu Q' q => by
        obtain ⟨a, o, us, n, rfl, q2, q3, q4⟩ := tup u hu
        exact Looks.here (show Looks (model prog w) s.heap (typeOf (.ref a)) (Value.type "tuple") from q3 ▸ (Looks.ld q2).andThen .now) q
      refine wpAny_bind (wpAny_bind (wpAny_bind (kas_mapM (r := Value.type "tuple") _ hT (wpAny_pure ?_))))
      have hall : ((List.map (fun _ => Value.type "tuple") (v :: vr)).toArray.all fun x => x == Value.type "tuple") = true := by
        simp only [List.all_toArray, List.all_map, List.all_eq_true]
        intro _ _
        exact beq_self_eq_true _
      have h0 : (List.map (fun _ => Value.type "tuple") (v :: vr)).toArray[0]? = some (Value.type "tuple") := by simp
      rw [h0]
      simp only [hall, if_true]
      exact wpAny_pure (wpAny_pure hq)
end

/-! ### sorted(xs), by value -/
def leD (x y : D) : Bool := dataLe false pyD x y
def isTupB : PyData → Bool
  | .tuple _ => true
  | _ => false
def neTupB : PyData → Bool
  | .tuple (_ :: _) => true
  | _ => false
def othB : PyData → Bool
  | .tuple _ => false
  | .none => false
  | _ => true
def srtB (ds : List D) : Bool := ds.all (fun d => shD d) && (ds.all fun d => ds.all fun e => alike (pyD d) (pyD e)) &&
  ((ds.all fun d => neTupB (pyD d)) || (ds.all fun d => othB (pyD d)) || ((match ds with
    | d :: _ => (match pyD d with
      | .tuple [] => true
      | _ => false)
    | [] => true) && ds.all fun d => isTupB (pyD d)))
def sortedD (xs : List D) (S : List O) : R D := match xs with
  | [x] => (match rdL S x with
    | some ds => if srtB ds = true ∧ ds.length ≤ sizeLine then .ok (.lst (ds.mergeSort leD)) S else .bad
    | none => .bad)
  | _ => .bad

theorem leD_eq : dataLe false (fun b : D × V => pyD b.1) = fun x y => leD x.1 y.1 := rfl
theorem merge_map {α β : Type} (f : α → β) (le : β → β → Bool) : ∀ (l : List α), (l.mergeSort fun a b => le (f a) (f b)).map f = (l.map f).mergeSort le := fun l => by
  rw [List.map_mergeSort]
  intro a _ b _
  rfl
theorem each_zip : ∀ {us : List Value} {vs : List V} {ds : List D}, Vals vs us → vs.length = ds.length → EachIs (fun (u : Value) (b : D × V) => RelV b.2 u) us (ds.zip vs)
  | [], [], [], _, _ => .nil
  | _, _, _, .nil, h => by
    cases ‹List D› with
    | nil => exact .nil
    | cons _ _ => cases h
  | _, _, d :: ds, .cons r t, h => .cons r (each_zip t (by simpa using h))
  | _, _, [], .cons _ _, h => by cases h
theorem each_vals : ∀ {us : List Value} {bs : List (D × V)}, EachIs (fun (u : Value) (b : D × V) => RelV b.2 u) us bs → Vals (bs.map (·.2)) us
  | _, _, .nil => .nil
  | _, _, .cons r t => .cons r (each_vals t)
theorem RepL.zip_mem {F : Fx} {μ : Mu} {H : Hp} : ∀ {ds : List D} {vs : List V}, RepL F μ H ds vs → ∀ b ∈ ds.zip vs, Rep F μ H b.1 b.2
  | [], _, h, b, hb => by simp at hb
  | d :: ds, _, h, b, hb => by
    obtain ⟨v, r, rfl, h1, h2⟩ := h
    rcases List.mem_cons.mp (show b ∈ (d, v) :: ds.zip r from hb) with rfl | hb
    · exact h1
    · exact RepL.zip_mem h2 b hb
theorem RepL.of_pairs {F : Fx} {μ : Mu} {H : Hp} : ∀ {bs : List (D × V)}, (∀ b ∈ bs, Rep F μ H b.1 b.2) → RepL F μ H (bs.map (·.1)) (bs.map (·.2))
  | [], _ => rfl
  | b :: bs, h => ⟨b.2, _, rfl, h b List.mem_cons_self, RepL.of_pairs fun c hc => h c (List.mem_cons_of_mem _ hc)⟩
theorem each_reads {h : Heap} : ∀ {us : List Value} {bs : List (D × V)}, EachIs (fun (u : Value) (b : D × V) => RelV b.2 u) us bs → (∀ b ∈ bs, ∀ u, RelV b.2 u → ∃ as, Reads h u (pyD b.1) as) → EachIs (fun u b => ∃ as, Reads h u (pyD b.1) as) us bs
  | _, _, .nil, _ => .nil
  | _, _, .cons r t, k => .cons (k _ List.mem_cons_self _ r) (each_reads t fun b hb => k b (List.mem_cons_of_mem _ hb))
theorem srt_is {ds : List D} (h : srtB ds = true) : (∀ d ∈ ds, shD d = true) ∧ AllAlike (ds.map pyD) ∧ (Sortable (ds.map pyD) ∨ Tup0 (ds.map pyD)) := by
  obtain ⟨h, h1⟩ := Bool.and_eq_true_iff.mp h
  obtain ⟨h2, h3⟩ := Bool.and_eq_true_iff.mp h
  refine ⟨fun d hd => List.all_eq_true.mp h2 d hd, fun x hx y hy => ?_, ?_⟩
  · obtain ⟨a, ha, rfl⟩ := List.mem_map.mp hx
    obtain ⟨b, hb, rfl⟩ := List.mem_map.mp hy
    exact List.all_eq_true.mp (List.all_eq_true.mp h3 a ha) b hb
  · rcases Bool.or_eq_true_iff.mp h1 with h1 | h1
    · rcases Bool.or_eq_true_iff.mp h1 with h1 | h1
      · refine .inl (.inl fun x hx => ?_)
        obtain ⟨a, ha, rfl⟩ := List.mem_map.mp hx
        have q := List.all_eq_true.mp h1 a ha
        unfold neTupB at q
        split at q
        · rename_i x r e; exact ⟨x, r, e⟩
        · cases q
      · refine .inl (.inr fun x hx => ?_)
        obtain ⟨a, ha, rfl⟩ := List.mem_map.mp hx
        have q := List.all_eq_true.mp h1 a ha
        exact ⟨fun e => (by rw [e] at q; cases q), fun xs e => (by rw [e] at q; cases q)⟩
    · obtain ⟨k1, k2⟩ := Bool.and_eq_true_iff.mp h1
      cases ds with
      | nil => exact .inl (.inl fun x hx => by simp at hx)
      | cons d ds =>
        refine .inr ⟨?_, fun x hx => ?_⟩
        · dsimp only at k1
          split at k1
          · rename_i e; show some (pyD d) = _; rw [e]
          · cases k1
        · obtain ⟨a, ha, rfl⟩ := List.mem_map.mp hx
          have q := List.all_eq_true.mp k2 a ha
          unfold isTupB at q
          split at q
          · rename_i xs e; exact ⟨xs, e⟩
          · cases q
theorem cl_sorted {X : Cx} {F : Fx} (hk : F.K = X.K) (hu : X.A.units + 64 < cLine) : CallR X (.builtin "sorted") (rPn F sortedD) := by
  intro pins s σ H xs us Q I rs h
  obtain ⟨μ, S, ds, rel, hd, p⟩ := h
  unfold sortedD at p
  split at p
  · rename_i x
    obtain ⟨v, rfl, hx⟩ := repL1 hd
    split at p
    · rename_i ds he
      split at p
      · rename_i hc
        obtain ⟨a, vs, rfl, q, r⟩ := rdL_rep rel hx he
        obtain rfl := Vals.ref1 rs
        obtain ⟨its, rv, hl, _⟩ := I.list (hk ▸ q)
        obtain ⟨s1, s2, s3⟩ := srt_is hc.1
        have el := each_zip rv r.length
        have em : (ds.zip vs).map (fun b => pyD b.1) = ds.map pyD := by
          have : (ds.zip vs).map (·.1) = ds := by rw [List.map_fst_zip]; rw [r.length]; exact Nat.le_refl _
          conv => rhs; rw [← this, List.map_map]
          rfl
        have mem1 : ∀ b ∈ ds.zip vs, b.1 ∈ ds := fun b hb => (List.of_mem_zip hb).1
        have er : ∀ h' : Heap, (∀ b o, s.heap.get? b = some o → h'.get? b = some o) → EachIs (fun u (b : D × V) => ∃ as, Reads h' u (pyD b.1) as) its (ds.zip vs) := fun h' k => each_reads el fun b hb u ru => by
          have sh := s1 b.1 (mem1 b hb)
          obtain ⟨as, ra⟩ := Dp.reads I _ _ u (hk ▸ Rep.dp b.1 b.2 (Bool.and_eq_true_iff.mp sh).1 (RepL.zip_mem r b hb)) ru
          exact ⟨as, PyProof.Rows.Reads.keeps k ra⟩
        have er' := er (sortingHeap (copyHeap s.heap its) (s.heap.objs.size + 1) its) fun _ _ => sorting_copy_old
        have hal : AllAlike ((ds.zip vs).map fun b => pyD b.1) := by rw [em]; exact s2
        have dep : ∀ d, d ∈ (ds.zip vs).map (fun b => pyD b.1) → X.A.in1.in1.units + d.depth < cLine := fun d hd => by
          rw [em] at hd
          obtain ⟨z, hz, rfl⟩ := List.mem_map.mp hd
          have := of_decide_eq_true (Bool.and_eq_true_iff.mp (s1 z hz)).2
          show X.A.units + 1 + 1 + _ < _
          omega
        have srt : SortsAt X.prog X.w X.A.in1.in1 { s with heap := sortingHeap (copyHeap s.heap its) (s.heap.objs.size + 1) its } (dataKind (sortingHeap (copyHeap s.heap its) (s.heap.objs.size + 1) its) ((ds.zip vs).map fun b => pyD b.1)) its := by
          have e1 := each_map (R := fun v d => ∃ as, Reads (sortingHeap (copyHeap s.heap its) (s.heap.objs.size + 1) its) v d as) (fun b : D × V => pyD b.1) er'
          rcases s3 with s3 | s3
          · exact SortsAt.data (s := { s with heap := sortingHeap (copyHeap s.heap its) (s.heap.objs.size + 1) its }) e1 hal (by rw [em]; exact s3) dep
          · exact sorts0 (s := { s with heap := sortingHeap (copyHeap s.heap its) (s.heap.objs.size + 1) its }) e1 hal (by rw [em]; exact s3) dep
        have hln : its.length = ds.length := by rw [← rv.length, r.length]
        refine sorted_vals hl.isList srt (by rw [hln]; exact hc.2) ?_
        have eo := sortVals_data (R := fun (u : Value) (b : D × V) => RelV b.2 u) (enc := fun b : D × V => pyD b.1) false el er' hal
        rw [leD_eq] at eo
        generalize sortVals (dataKind (sortingHeap (copyHeap s.heap its) (s.heap.objs.size + 1) its) ((ds.zip vs).map fun b => pyD b.1)) false its its = out at eo
        generalize hbs : (ds.zip vs).mergeSort (fun x y => leD x.1 y.1) = bs at eo
        have hperm : bs.Perm (ds.zip vs) := hbs ▸ List.mergeSort_perm _ _
        have hb1 : bs.map (·.1) = ds.mergeSort leD := by
          rw [← hbs, merge_map (fun b : D × V => b.1) leD]
          rw [List.map_fst_zip]
          rw [r.length]; exact Nat.le_refl _
        obtain ⟨ep, he'⟩ := PyProof.Rows.sortedAll_at s.heap its out.toArray
        have hfr : H (s.heap.objs.size + 1) = none := I.hok.fresh (Nat.le_succ _)
        have hr : RepL F μ H (ds.mergeSort leD) (bs.map (·.2)) := by
          rw [← hb1]
          exact RepL.of_pairs fun b hb => RepL.zip_mem r b (hperm.mem_iff.mp hb)
        refine ⟨.ref _, upd H (s.heap.objs.size + 1) (.lst (bs.map (·.2))), I.laid (t' := s.toks) (fun _ _ => PyProof.Rows.sortedAll_old) (Nat.le_succ _) ⟨?_, out, ep, each_vals eo, by simpa using he'⟩, rfl, P1.lst p rel hr _ hfr⟩
        rw [List.length_map, hperm.length_eq, List.length_zip, r.length, Nat.min_self]; exact hc.2
      · exact p.elim
    · exact p.elim
  · exact p.elim
end Ev
end
section
set_option Elab.async false
set_option linter.all false
set_option maxRecDepth 100000
set_option maxHeartbeats 4000000
set_option autoImplicit false
/-! Ev, part D: the small language and its evaluator. -/
namespace Ev
open PySem PySem.Spec PyProof.Rows L2

/-- a class as isinstance names it -/
inductive TyC where
  | int | bool | str | list | tuple | dict | own (c : Nat) | value
  deriving DecidableEq

mutual
inductive E where
  | non | bl (b : Bool) | int (i : Int) | str (cs : List Nat)
  | var (i : Nat) | glb (g : Nat)
  | bin (o : Operator) (a b : E) | neg (a : E) | nt (a : E) | and (a b : E) | or (a b : E)
  | cmp (o : CmpOp) (a b : E) | chain (o o' : CmpOp) (a b c : E) | ite (c a b : E)
  | tup (es : Es) | lst (es : Es) | emp (t : Bool) | flst (es : Es) | femp (t : Bool)
  | idx (a i : E) | slc (a : E) (lo hi : OE) | attr (a : E) (f : Nat)
  | call (f : Nat) (es : Es) | make (c : Nat) (es : Es) | bi (b : BI) (es : Es)
  | meth (m : MT) (o : E) (es : Es) | omth (m : Nat) (o : E) (es : Es)
  | isi (a : E) (ts : List TyC) | xf (f : Nat) | xis (t : TyC)
  | lc (elt : E) (t : T) (it : I) (c : OE) (vs : List Nat)
  | lc2 (elt : E) (t : T) (it : I) (t1 : T) (it1 : I) (vs vs1 : List Nat)
  | frz (a : E)
  | oeq (m : Nat) (a b : E) | mulL (z : Bool) (a b : E) | lrng (k : Nat) (a : E) | lrng2 (k : Nat) (a b : E)
inductive Es where
  | nil | cons (e : E) (r : Es)
inductive OE where
  | no | yes (e : E)
inductive I where
  | of (e : E) | rng (a : E) | rng2 (a b : E) | zip (a b : E) | enm (a : E)
inductive T where
  | nm (i : Nat) | tup (ts : Ts)
inductive Ts where
  | nil | cons (t : T) (r : Ts)
end
mutual
inductive S where
  | pass | doc | ret (e : E) | retN | exp (e : E)
  | asg (t : T) (e : E) | asgL (z : Bool) (i : Nat) (elt : E) (t : T) (it : I) (c : OE) (vs : List Nat)
  | asgL2 (z : Bool) (i : Nat) (elt : E) (t : T) (it : I) (t1 : T) (it1 : I) (vs vs1 : List Nat)
  | par (i j : Nat) (a b : E)
  | asgI (o i e : E) | asgF (o : E) (f : Nat) (e : E) | aug (i : Nat) (op : Operator) (e : E)
  | ife (c : E) (a b : Ss) | wh (c : E) (b : Ss) | fr (t : T) (it : I) (b : Ss)
  | rse (c : Nat) (es : Es) | tri (b : Ss) (hs : Hs)
inductive Ss where
  | nil | cons (s : S) (r : Ss)
inductive Hs where
  | nil | cons (t : TyC) (n : Option Nat) (b : Ss) (r : Hs)
end

abbrev Env' := List (Option D)
abbrev Orc := Nat → List D → List O → R D

/-- the law's tables -/
structure Df where
  np : Nat
  nn : Nat
  raw : Bool
  body : Ss
structure Ct where
  glb : Nat → D
  /-- own class c is a subclass of c' -/
  sub : Nat → Nat → Bool
  /-- .. of ValueError -/
  val : Nat → Bool
  /-- c is a class of instances; of exceptions -/
  icl : Nat → Bool
  exc : Nat → Bool
  /-- may be read, written at instances of c -/
  fld : Nat → Nat → Bool
  mth : Nat → Nat → Option Nat
  ini : Nat → Option Nat
  /-- the fields that an exception's own __init__ sets, by its parameters -/
  xfs : Nat → List Nat
  defs : Nat → Option Df

def R.prim {α : Type} : R α → R α
  | .ok a S => .ok a S
  | _ => .bad
def R.map {α β : Type} (f : α → β) : R α → R β
  | .ok a S => .ok (f a) S
  | .ex x S => .ex x S
  | .bad => .bad
def noR : OE → Bool
  | .no => true
  | _ => false

/-! ### values -/
def lookF : List Nat → List D → Nat → Option D
  | f :: fs, d :: ds, g => if f = g then some d else lookF fs ds g
  | _, _, _ => none
def putD : List Nat → List D → Nat → D → List Nat × List D
  | f :: fs, d :: ds, g, x => if f = g then (f :: fs, x :: ds) else ((f :: (putD fs ds g x).1), d :: (putD fs ds g x).2)
  | fs, ds, g, x => ([g], [x])
def insOf (S : List O) : D → Option (Nat × List Nat × List D)
  | .ins C fs vs => some (C, fs, vs)
  | .ref n => (match S[n]? with
    | some (.ins C fs vs) => some (C, fs, vs)
    | _ => none)
  | _ => none
def attrD (t : Ct) (x : D) (f : Nat) (S : List O) : R D := match insOf S x with
  | some (C, fs, vs) => (match lookF fs vs f with
    | some d => if t.fld C f = true then .ok d S else .bad
    | none => .bad)
  | none => .bad
/-- o.f = d -/
def setF (t : Ct) (o : D) (f : Nat) (d : D) (S : List O) : R Unit := match o with
  | .ref n => (match S[n]? with
    | some (.ins C fs vs) => if t.fld C f = true ∧ fs.length < 1000 then .ok () (S.set n (.ins C (putD fs vs f d).1 (putD fs vs f d).2)) else .bad
    | _ => .bad)
  | _ => .bad
/-- a value's type -/
inductive TN where
  | non | bl | int | str | tup | lst | dct | ins (C : Nat)
  deriving DecidableEq
@[simp] def tyN (S : List O) : D → Option TN
  | .non => some .non
  | .bl _ => some .bl
  | .int _ => some .int
  | .str _ => some .str
  | .tup _ => some .tup
  | .ft _ => some .tup
  | .lst _ => some .lst
  | .fl _ => some .lst
  | .dk _ _ => some .dct
  | .dt _ _ => some .dct
  | .ins C _ _ => some (.ins C)
  | .ref n => (match S[n]? with
    | some (.lst _) => some .lst
    | some (.dK _ _) => some .dct
    | some (.dT _ _) => some .dct
    | some (.ins C _ _) => some (.ins C)
    | none => none)
  | .cls _ => none
/-- is a value of that type of the class T -/
@[simp] def kitD (t : Ct) : TN → TyC → Option Bool
  | _, .value => none
  | .int, .int => some true
  | .bl, .int => some true
  | .bl, .bool => some true
  | .str, .str => some true
  | .tup, .tuple => some true
  | .lst, .list => some true
  | .dct, .dict => some true
  | .ins C, .own c => if t.icl C = true ∧ t.icl c = true then some (t.sub C c) else none
  | .ins C, _ => if t.icl C = true then some false else none
  | _, .own c => if t.icl c = true then some false else none
  | _, _ => some false
@[simp] def isi1 (t : Ct) (S : List O) (x : D) (T : TyC) : Option Bool := (tyN S x).bind fun n => kitD t n T
@[simp] def isiD (t : Ct) (x : D) (S : List O) : List TyC → R D
  | [] => .ok (.bl false) S
  | T :: Ts => (match isi1 t S x T with
    | some true => .ok (.bl true) S
    | some false => isiD t x S Ts
    | none => .bad)
/-- is the exception of the class T -/
def xisB (t : Ct) (x : Exn) : TyC → Option Bool
  | .own c => if t.exc x.c = true ∧ t.exc c = true then some (t.sub x.c c) else none
  | .value => if t.exc x.c = true then some (t.val x.c) else none
  | _ => none
@[simp] def biD : BI → List D → List O → R D
  | .len => lenD
  | .abs => absD
  | .int => intD
  | .tuple => tupleD
  | .list => listD
  | .all => allD
  | .any => anyD
  | .sum => sumD
  | .max => maxD
  | .min => minD
  | .str => strD
  | .sorted => sortedD
  | _ => fun _ _ => .bad
@[simp] def negD (x : D) (S : List O) : R D := match x with
  | .int i => .ok (.int (-i)) S
  | _ => .bad
@[simp] def ntD (x : D) (S : List O) : R D := match x with
  | .bl b => .ok (.bl (!b)) S
  | _ => .bad
@[simp] def tstD (x : D) (S : List O) : R Bool := match truthD x S with
  | some b => .ok b S
  | none => .bad
@[simp] def optI (x : D) (S : List O) : R (Option Int) := match x with
  | .int i => .ok (some i) S
  | _ => .bad

/-! ### what is walked: its items, the stored lists that must stay -/
structure Src where
  its : List D
  gd : List (Nat × List D)
def gdOk (S : List O) : List (Nat × List D) → Prop
  | [] => True
  | g :: r => (match S[g.1]? with
    | some (.lst ds) => ds = g.2
    | _ => False) ∧ gdOk S r
def srcOf (S : List O) : D → Option Src
  | .str cs => some ⟨cs.map fun c => .str [c], []⟩
  | .ref n => (match S[n]? with
    | some (.lst ds) => some ⟨ds, [(n, ds)]⟩
    | _ => none)
  | d => (seqOf S d).map fun ds => ⟨ds, []⟩
def zipS (a b : Src) : Src := ⟨(a.its.zip b.its).map fun p => .tup [p.1, p.2], a.gd ++ b.gd⟩
def enmL : Nat → List D → List D
  | _, [] => []
  | i, d :: ds => .tup [.int (i : Nat), d] :: enmL (i + 1) ds
def enmS (a : Src) : Src := ⟨enmL 0 a.its, a.gd⟩
def rngL (lo : Int) : Nat → List D
  | 0 => []
  | n + 1 => .int lo :: rngL (lo + 1) n
def inR (i : Int) : Prop := i.natAbs < 4611686018427387904
instance (i : Int) : Decidable (inR i) := by unfold inR; infer_instance
theorem inR_b {i : Int} (h : inR i) : -(2 ^ 62) ≤ i ∧ i < 2 ^ 62 := by unfold inR at h; omega
def ofS (x : D) (S : List O) : R Src := match srcOf S x with
  | some s => .ok s S
  | none => .bad
def rngS (x y : D) (S : List O) : R Src := match x, y with
  | .int i, .int j => if inR i ∧ inR j then .ok ⟨rngL i (j - i).toNat, []⟩ S else .bad
  | _, _ => .bad

/-! ### targets -/
mutual
@[simp] def asT : T → D → Env' → Option Env'
  | .nm i, d, ρ => some (ρ.set i (some d))
  | .tup ts, d, ρ => (match d with
    | .tup ds => asTs ts ds ρ
    | .ft ds => asTs ts ds ρ
    | _ => none)
@[simp] def asTs : Ts → List D → Env' → Option Env'
  | .nil, [], ρ => some ρ
  | .cons t r, d :: ds, ρ => (asT t d ρ).bind fun ρ' => asTs r ds ρ'
  | _, _, _ => none
end
@[simp] def wipeD (ρ : Env') : List Nat → Env'
  | [] => ρ
  | v :: vs => (wipeD ρ vs).set v none

/-! ### the things made on the way, told by value -/
mutual
def clD (n0 : Nat) : D → Bool
  | .tup ds | .lst ds | .fl ds | .ft ds | .dk _ ds | .dt _ ds | .ins _ _ ds => clL n0 ds
  | .ref n => decide (n < n0)
  | _ => true
def clL (n0 : Nat) : List D → Bool
  | [] => true
  | d :: ds => clD n0 d && clL n0 ds
end
mutual
def frzD (g : Nat → Option D) : D → Option D
  | .tup ds => (frzL g ds).map .tup
  | .lst ds => (frzL g ds).map .lst
  | .fl ds => (frzL g ds).map .fl
  | .ft ds => (frzL g ds).map .ft
  | .dk ks ds => (frzL g ds).map (.dk ks)
  | .dt ks ds => (frzL g ds).map (.dt ks)
  | .ins C fs ds => (frzL g ds).map (.ins C fs)
  | .ref n => g n
  | d => some d
def frzL (g : Nat → Option D) : List D → Option (List D)
  | [] => some []
  | d :: ds => (frzD g d).bind fun d' => (frzL g ds).map (d' :: ·)
end
def frzN (n0 : Nat) (S : List O) : Nat → Nat → Option D
  | 0, n => if n < n0 then some (.ref n) else none
  | k + 1, n => if n < n0 then some (.ref n) else match S[n]? with
    | some (.lst ds) => (frzL (frzN n0 S k) ds).map .lst
    | some (.dK ks ds) => (frzL (frzN n0 S k) ds).map (.dk ks)
    | some (.dT ks ds) => (frzL (frzN n0 S k) ds).map (.dt ks)
    | some (.ins C fs ds) => (frzL (frzN n0 S k) ds).map (.ins C fs)
    | none => none
def clO (n0 : Nat) : O → Bool
  | .lst ds | .dK _ ds | .dT _ ds | .ins _ _ ds => clL n0 ds
/-- the objects of the entry do not hold later ones -/
def gcOk (S S' : List O) : Prop := S.length ≤ S'.length ∧ ∀ n, n < S.length → S'[n]? = S[n]? ∨ ∃ o, S'[n]? = some o ∧ clO S.length o = true
open Classical in
/-- at the end of a call, of a display: what was made is told by value -/
noncomputable def gcR (S : List O) : R D → R D
  | .ok d S' => if gcOk S S' then (match frzD (frzN S.length S' 6) d with
    | some d' => .ok d' (S'.take S.length)
    | none => .bad) else .bad
  | .ex x S' => if gcOk S S' then (match frzL (frzN S.length S' 6) x.vs with
    | some vs => .ex ⟨x.c, x.fs, vs⟩ (S'.take S.length)
    | none => .bad) else .bad
  | .bad => .bad

@[simp] noncomputable def gcB (z : Bool) (S : List O) (r : R D) : R D := if z = true then gcR S r else r
open Classical in
/-- the turns of a comprehension: the list at n grows -/
noncomputable def lcGo (n : Nat) (gd : List (Nat × List D)) (f : D → List O → R (Option D)) : List D → List O → R Unit
  | [], S => if gdOk S gd then .ok () S else .bad
  | d :: ds, S => if gdOk S gd then (match f d S with
    | .ok none S' => lcGo n gd f ds S'
    | .ok (some x) S' => (match S'[n]? with
      | some (.lst acc) => if acc.length < sizeLine then lcGo n gd f ds (S'.set n (.lst (acc ++ [x]))) else .bad
      | _ => .bad)
    | _ => .bad) else .bad
open Classical in
noncomputable def lc2Go (gd : List (Nat × List D)) (f : D → List O → R Unit) : List D → List O → R Unit
  | [], S => if gdOk S gd then .ok () S else .bad
  | d :: ds, S => if gdOk S gd then (match f d S with
    | .ok _ S' => lc2Go gd f ds S'
    | _ => .bad) else .bad

def augD : Operator → Int → D → Option Int
  | .Add, a, .int b => some (a + b)
  | .Sub, a, .int b => some (a - b)
  | _, _, _ => none
inductive Fl where
  | nx (ρ : Env') (S : List O) | rt (d : D) (S : List O) | ex (x : Exn) (ρ : Env') (S : List O) | bad
def R.fl {α : Type} (r : R α) (ρ : Env') (k : α → List O → Fl) : Fl := match r with
  | .ok a S => k a S
  | .ex x S => .ex x ρ S
  | .bad => .bad
/-- nothing may be raised -/
def Fl.nox : Fl → Fl
  | .ex _ _ _ => .bad
  | f => f
def Fl.bind (f : Fl) (k : Env' → List O → Fl) : Fl := match f with
  | .nx ρ S => k ρ S
  | f => f
open Classical in
noncomputable def frGo (gd : List (Nat × List D)) (t : T) (b : Env' → List O → Fl) : List D → Env' → List O → Fl
  | [], ρ, S => if gdOk S gd then .nx ρ S else .bad
  | d :: ds, ρ, S => if gdOk S gd then (match asT t d ρ with
    | some ρ' => (b ρ' S).bind fun ρ'' S' => frGo gd t b ds ρ'' S'
    | none => .bad) else .bad
def whF (c : Env' → List O → R Bool) (b : Env' → List O → Fl) : Nat → Env' → List O → Option Fl
  | 0, _, _ => none
  | n + 1, ρ, S => match c ρ S with
    | .ok true S' => (match b ρ S' with
      | .nx ρ' S'' => whF c b n ρ' S''
      | f => some f)
    | .ok false S' => some (.nx ρ S')
    | .ex x S' => some (.ex x ρ S')
    | .bad => some .bad
open Classical in
noncomputable def whC (c : Env' → List O → R Bool) (b : Env' → List O → Fl) (ρ : Env') (S : List O) : Fl :=
  if h : ∃ n f, whF c b n ρ S = some f then Classical.choose (Classical.choose_spec h) else .bad

/-- a new list, kept as a value, or stored -/
def mkL (z : Bool) (ds : List D) (S : List O) : R D := if z = true then .ok (.ref S.length) (S ++ [.lst ds]) else .ok (.lst ds) S
def mulLD (z : Bool) (x y : D) (S : List O) : R D := match y with
  | .int k => (match listOf S x with
    | some ds => if 0 ≤ k ∧ k ≤ 100000 ∧ ds.length ≤ 100 then mkL z (repL k.toNat ds) S else .bad
    | none => .bad)
  | _ => .bad
/-- list(range(..)): 0 a value, 1 stored, 2 tuple(range(..)) -/
def lrD (k : Nat) (x y : D) (S : List O) : R D := match x, y with
  | .int i, .int j => if inR i ∧ inR j ∧ (j - i).toNat ≤ 16777216 then (if k = 2 then .ok (.tup (rngL i (j - i).toNat)) S else mkL (k == 1) (rngL i (j - i).toNat) S) else .bad
  | _, _ => .bad
/-- own == -/
def tyOk (t : Ct) : TN → Bool
  | .ins d => t.icl d
  | _ => true
def oeqD (t : Ct) (C : Orc) (m : Nat) (x y : D) (S : List O) : R D := match insOf S x with
  | some (c, _, _) => (match tyN S y with
    | some n => if tyOk t n = true then (match t.mth c m with
      | some f => (match C f [x, y] S with
        | .ok (.bl b) S' => .ok (.bl b) S'
        | _ => .bad)
      | none => .bad) else .bad
    | none => .bad)
  | none => (cmpD .Eq x y S).prim
/-- C(..): __init__ has run -/
def mkEnd (n : Nat) (d : D) (S : List O) : R D := match d with
  | .non => .ok (.ref n) S
  | _ => .bad
def mkRun (t : Ct) (C : Orc) (c : Nat) (ds : List D) (S : List O) : R D := match t.ini c with
  | some f => (C f (.ref S.length :: ds) (S ++ [.ins c [] []])).bind (mkEnd S.length)
  | none => .bad
section
variable (t : Ct) (C : Orc) (hx : Option Exn)
mutual
noncomputable def evE : E → Env' → List O → R D
  | .non, _, S => .ok .non S
  | .bl b, _, S => .ok (.bl b) S
  | .int i, _, S => .ok (.int i) S
  | .str cs, _, S => .ok (.str cs) S
  | .var i, ρ, S => (match ρ[i]? with
    | some (some d) => .ok d S
    | _ => .bad)
  | .glb g, _, S => .ok (t.glb g) S
  | .bin o a b, ρ, S => (evE a ρ S).bind fun x S => (evE b ρ S).bind fun y S => (binD o x y S).prim
  | .neg a, ρ, S => (evE a ρ S).bind fun x S => (negD x S).prim
  | .nt a, ρ, S => (evE a ρ S).bind fun x S => (ntD x S).prim
  | .and a b, ρ, S => (evE a ρ S).bind fun x S => (match x with
    | .bl true => evE b ρ S
    | .bl false => .ok (.bl false) S
    | _ => .bad)
  | .or a b, ρ, S => (evE a ρ S).bind fun x S => (match x with
    | .bl true => .ok (.bl true) S
    | .bl false => evE b ρ S
    | _ => .bad)
  | .cmp o a b, ρ, S => (evE a ρ S).bind fun x S => (evE b ρ S).bind fun y S => (cmpD o x y S).prim
  | .chain o o' a b c, ρ, S => (evE a ρ S).bind fun x S => (evE b ρ S).bind fun y S => (cmpD o x y S).prim.bind fun z S => (match z with
    | .bl true => (evE c ρ S).bind fun w S => (cmpD o' y w S).prim
    | .bl false => .ok (.bl false) S
    | _ => .bad)
  | .ite c a b, ρ, S => (evE c ρ S).bind fun x S => (tstD x S).bind fun k S => if k = true then evE a ρ S else evE b ρ S
  | .tup es, ρ, S => (evEs es ρ S).bind fun ds S => if ds.length ≤ sizeLine then .ok (.tup ds) S else .bad
  | .lst es, ρ, S => (evEs es ρ S).bind fun ds S => if ds.length ≤ sizeLine then .ok (.ref S.length) (S ++ [.lst ds]) else .bad
  | .emp k, _, S => .ok (.ref S.length) (S ++ [if k = true then .dT [] [] else .dK [] []])
  | .flst es, ρ, S => (evEs es ρ S).bind fun ds S => if ds.length ≤ sizeLine then .ok (.lst ds) S else .bad
  | .femp k, _, S => .ok (if k = true then .dt [] [] else .dk [] []) S
  | .idx a i, ρ, S => (evE a ρ S).bind fun x S => (evE i ρ S).bind fun y S => (idxD x y S).prim
  | .slc a lo hi, ρ, S => (evE a ρ S).bind fun x S => (evO lo ρ S).bind fun l S => (evO hi ρ S).bind fun h S => (sliceD x l h S).prim
  | .attr a f, ρ, S => (evE a ρ S).bind fun x S => attrD t x f S
  | .call f es, ρ, S => (evEs es ρ S).bind fun ds S => C f ds S
  | .make c es, ρ, S => (evEs es ρ S).bind fun ds S => mkRun t C c ds S
  | .bi b es, ρ, S => (evEs es ρ S).bind fun ds S => (biD b ds S).prim
  | .meth m o es, ρ, S => (evE o ρ S).bind fun x S => if m.at S x = true then (evEs es ρ S).bind fun ds S => (methD m x ds S).prim else .bad
  | .omth m o es, ρ, S => (evE o ρ S).bind fun x S => (match insOf S x with
    | some (c, fs, vs) => (match t.mth c m with
      | some f => if fs.contains m = true then .bad else (evEs es ρ S).bind fun ds S => C f (x :: ds) S
      | none => .bad)
    | none => .bad)
  | .isi a ts, ρ, S => (evE a ρ S).bind fun x S => isiD t x S ts
  | .xf f, _, S => (match hx with
    | some x => (match lookF x.fs x.vs f with
      | some d => if (t.xfs x.c).contains f = true then .ok d S else .bad
      | none => .bad)
    | none => .bad)
  | .xis T, _, S => (match hx with
    | some x => (match xisB t x T with
      | some b => if x.fs = [] then .ok (.bl b) S else .bad
      | none => .bad)
    | none => .bad)
  | .lc elt tg it c vs, ρ, S => (evI it ρ S).bind fun s S => (lcGo S.length s.gd (fun d S' => (match asT tg d (wipeD ρ vs) with
      | some ρ' => (evC c ρ' S').bind fun k S' => if k = true then (evE elt ρ' S').map some else .ok none S'
      | none => .bad)) s.its (S ++ [.lst []])).prim.bind fun _ S' => .ok (.ref S.length) S'
  | .lc2 elt tg it tg1 it1 vs vs1, ρ, S => (evI it ρ S).bind fun s S => (lc2Go s.gd (fun d S' => (match asT tg d (wipeD ρ vs) with
      | some ρ' => (evI it1 ρ' S').bind fun s1 S' => lcGo S.length s1.gd (fun d1 S' => (match asT tg1 d1 (wipeD ρ' vs1) with
        | some ρ'' => (evE elt ρ'' S').map some
        | none => .bad)) s1.its S'
      | none => .bad)) s.its (S ++ [.lst []])).prim.bind fun _ S' => .ok (.ref S.length) S'
  | .frz a, ρ, S => gcR S (evE a ρ S)
  | .oeq m a b, ρ, S => (evE a ρ S).bind fun x S => (evE b ρ S).bind fun y S => oeqD t C m x y S
  | .mulL z a b, ρ, S => (evE a ρ S).bind fun x S => (evE b ρ S).bind fun y S => (mulLD z x y S).prim
  | .lrng k a, ρ, S => (evE a ρ S).bind fun x S => (lrD k (.int 0) x S).prim
  | .lrng2 k a b, ρ, S => (evE a ρ S).bind fun x S => (evE b ρ S).bind fun y S => (lrD k x y S).prim
noncomputable def evEs : Es → Env' → List O → R (List D)
  | .nil, _, S => .ok [] S
  | .cons e r, ρ, S => (evE e ρ S).bind fun d S => (evEs r ρ S).bind fun ds S => .ok (d :: ds) S
noncomputable def evO : OE → Env' → List O → R (Option Int)
  | .no, _, S => .ok none S
  | .yes e, ρ, S => (evE e ρ S).bind fun d S => optI d S
noncomputable def evC : OE → Env' → List O → R Bool
  | .no, _, S => .ok true S
  | .yes e, ρ, S => (evE e ρ S).bind fun d S => tstD d S
noncomputable def evI : I → Env' → List O → R Src
  | .of e, ρ, S => (evE e ρ S).bind fun d S => ofS d S
  | .rng a, ρ, S => (evE a ρ S).bind fun x S => rngS (.int 0) x S
  | .rng2 a b, ρ, S => (evE a ρ S).bind fun x S => (evE b ρ S).bind fun y S => rngS x y S
  | .zip a b, ρ, S => (evE a ρ S).bind fun x S => (evE b ρ S).bind fun y S => (ofS x S).bind fun s S => (ofS y S).bind fun s' S => .ok (zipS s s') S
  | .enm a, ρ, S => (evE a ρ S).bind fun x S => (ofS x S).bind fun s S => .ok (enmS s) S
end
noncomputable def tst (e : E) (ρ : Env') (S : List O) : R Bool := (evE t C hx e ρ S).bind fun d S => tstD d S
/-- does a clause take it -/
def hdT (x : Exn) (T : TyC) : Option Bool := xisB t x T
end

section
variable (t : Ct) (C : Orc)
mutual
noncomputable def evS : S → Option Exn → Env' → List O → Fl
  | .pass, _, ρ, S => .nx ρ S
  | .doc, _, ρ, S => .nx ρ S
  | .ret e, hx, ρ, S => (evE t C hx e ρ S).fl ρ fun d S => .rt d S
  | .retN, _, _, S => .rt .non S
  | .exp e, hx, ρ, S => (evE t C hx e ρ S).fl ρ fun _ S => .nx ρ S
  | .asg g e, hx, ρ, S => (evE t C hx e ρ S).fl ρ fun d S => (match asT g d ρ with
    | some ρ' => .nx ρ' S
    | none => .bad)
  | .asgL z i elt tg it c vs, hx, ρ, S => (gcB z S (evE t C hx (.lc elt tg it c vs) ρ S)).fl ρ fun d S => .nx (ρ.set i (some d)) S
  | .asgL2 z i elt tg it tg1 it1 vs vs1, hx, ρ, S => (gcB z S (evE t C hx (.lc2 elt tg it tg1 it1 vs vs1) ρ S)).fl ρ fun d S => .nx (ρ.set i (some d)) S
  | .par i j a b, hx, ρ, S => (evE t C hx a ρ S).fl ρ fun x S => (evE t C hx b ρ S).fl ρ fun y S => .nx ((ρ.set i (some x)).set j (some y)) S
  | .asgI o i e, hx, ρ, S => (evE t C hx e ρ S).fl ρ fun d S => (evE t C hx o ρ S).fl ρ fun x S => (evE t C hx i ρ S).fl ρ fun y S => (setD x y d S).prim.fl ρ fun _ S => .nx ρ S
  | .asgF o f e, hx, ρ, S => (evE t C hx e ρ S).fl ρ fun d S => (evE t C hx o ρ S).fl ρ fun x S => (setF t x f d S).fl ρ fun _ S => .nx ρ S
  | .aug i op e, hx, ρ, S => (match ρ[i]? with
    | some (some (.int a)) => (evE t C hx e ρ S).fl ρ fun d S => (match augD op a d with
      | some c => .nx (ρ.set i (some (.int c))) S
      | none => .bad)
    | _ => .bad)
  | .ife c a b, hx, ρ, S => (tst t C hx c ρ S).fl ρ fun k S => if k = true then evSs a hx ρ S else evSs b hx ρ S
  | .wh c b, hx, ρ, S => whC (fun ρ S => tst t C hx c ρ S) (fun ρ S => evSs b hx ρ S) ρ S
  | .fr g it b, hx, ρ, S => (evI t C hx it ρ S).fl ρ fun s S => frGo s.gd g (fun ρ S => evSs b hx ρ S) s.its ρ S
  | .rse c es, hx, ρ, S => (evEs t C hx es ρ S).fl ρ fun ds S => if ds.length = (t.xfs c).length then .ex ⟨c, t.xfs c, ds⟩ ρ S else .bad
  | .tri b hs, _, ρ, S => (match evSs b none ρ S with
    | .ex x ρ' S' => evHs hs x ρ' S'
    | f => f)
noncomputable def evSs : Ss → Option Exn → Env' → List O → Fl
  | .nil, _, ρ, S => .nx ρ S
  | .cons s r, hx, ρ, S => (evS s hx ρ S).bind fun ρ' S' => evSs r hx ρ' S'
noncomputable def evHs : Hs → Exn → Env' → List O → Fl
  | .nil, x, ρ, S => .ex x ρ S
  | .cons T n b r, x, ρ, S => (match xisB t x T with
    | some true => (match n with
      | none => (evSs b (some x) ρ S).nox
      | some i => if i < ρ.length then (match (evSs b (some x) (ρ.set i none) S).nox with
        | .nx ρ' S' => .nx (ρ'.set i none) S'
        | f => f) else .bad)
    | some false => evHs r x ρ S
    | none => .bad)
end
/-- a def's call, its callees told by C -/
noncomputable def runD (d : Df) (ds : List D) (S : List O) : R D :=
  if ds.length = d.np then
    let r : R D := match evSs t C d.body none (ds.map some ++ List.replicate (d.nn - ds.length) none) S with
      | .nx _ S' => .ok .non S'
      | .rt v S' => .ok v S'
      | .ex x _ S' => .ex x S'
      | .bad => .bad
    if d.raw = true then r else gcR S r
  else .bad
end
/-- the call of the def f, calls nested k deep at most -/
noncomputable def callD (t : Ct) : Nat → Nat → List D → List O → R D
  | 0, _, _, _ => .bad
  | k + 1, f, ds, S => (match t.defs f with
    | some d => runD t (callD t k) d ds S
    | none => .bad)
end Ev
end
section
set_option Elab.async false
set_option linter.all false
set_option maxRecDepth 100000
set_option maxHeartbeats 4000000
set_option autoImplicit false
/-! Ev, part E: readings of the evaluator as HandS readings. -/
namespace Ev
open PySem PySem.Spec PyProof.Rows L2

/-- the exception that a suite holds: its address, class, dict, what it is; its name's slot -/
structure Hi where
  a : Addr
  cls : Value
  d : Option Addr
  x : Exn
  i : Option Nat
def ERep (F : Fx) (μ : Mu) (H : Hp) (ρ : Env') (σ : L2.St) : Prop :=
  ρ.length = σ.length ∧ ∀ (i : Nat) (d : D), (ρ : List (Option D))[i]? = some (some d) → ∃ v, σ[i]? = some (some v) ∧ Rep F μ H d v
def XRep (F : Fx) (μ : Mu) (H : Hp) (x : Exn) (cls : Value) (dd : Option Addr) : Prop :=
  cls = .ref (F.ca x.c) ∧ ((x.fs = [] ∧ x.vs = [] ∧ dd = none) ∨ ∃ a kvs, dd = some a ∧ a ∉ μ ∧ H a = some (.xd kvs) ∧ x.fs ≠ [] ∧
    x.fs.length = x.vs.length ∧ (∀ f ∈ x.fs, f < F.an.length) ∧ ∀ f d, lookF x.fs x.vs f = some d → ∃ v, kvs.lookup (F.nm f) = some v ∧ Rep F μ H d v)
def EnvR (F : Fx) (hi : Option Hi) (μ : Mu) (H : Hp) (ρ : Env') (σ : L2.St) : Prop :=
  ERep F μ H ρ σ ∧ ∀ h, hi = some h → XRep F μ H h.x h.cls h.d ∧ ∀ (i : Nat), h.i = some i → σ[i]? = some (some (.ref h.a)) ∧ (ρ : List (Option D))[i]? = some none

section
variable {F : Fx} {μ μ' : Mu} {H H' : Hp} {ρ : Env'} {σ : L2.St} {hi : Option Hi}
theorem ERep.mono (x : Ext μ H μ' H') (r : ERep F μ H ρ σ) : ERep F μ' H' ρ σ :=
  ⟨r.1, fun i d e => by obtain ⟨v, q, p⟩ := r.2 i d e; exact ⟨v, q, p.mono x⟩⟩
theorem XRep.mono {x : Exn} {cls : Value} {dd : Option Addr} (e : Ext μ H μ' H') (r : XRep F μ H x cls dd) : XRep F μ' H' x cls dd := by
  obtain ⟨h1, h2 | ⟨a, kvs, h2, h3, h4, hn, h5, h6, h7⟩⟩ := r
  · exact ⟨h1, .inl h2⟩
  · obtain ⟨q1, q2⟩ := e.keep a _ h3 h4
    exact ⟨h1, .inr ⟨a, kvs, h2, q2, q1, hn, h5, h6, fun f d q => by obtain ⟨v, p1, p2⟩ := h7 f d q; exact ⟨v, p1, p2.mono e⟩⟩⟩
theorem EnvR.mono (x : Ext μ H μ' H') (r : EnvR F hi μ H ρ σ) : EnvR F hi μ' H' ρ σ :=
  ⟨r.1.mono x, fun h e => ⟨(r.2 h e).1.mono x, (r.2 h e).2⟩⟩
end

/-- what is wanted of an evaluation's end -/
def Sat {α : Type} (F : Fx) (μ : Mu) (H : Hp) (r : R α) (σ : L2.St) (W : WX) (P : α → Mu → List O → Hp → Prop) : Prop := match r with
  | .ok a S => ∀ μ' H', Ext μ H μ' H' → Rel F μ' S H' → P a μ' S H'
  | .ex x S => ∀ μ' H' cls d, Ext μ H μ' H' → Rel F μ' S H' → XRep F μ' H' x cls d → W cls d σ H'
  | .bad => False
section
variable {α β : Type} {F : Fx} {μ μ' : Mu} {H H' : Hp} {σ : L2.St} {W : WX} {P P' : α → Mu → List O → Hp → Prop} {r : R α}
theorem Sat.mono (x : Ext μ H μ' H') (h : Sat F μ H r σ W P) : Sat F μ' H' r σ W P := by
  cases r with
  | ok a S => exact fun μ2 H2 e q => h μ2 H2 (x.trans e) q
  | ex a S => exact fun μ2 H2 cls d e q z => h μ2 H2 cls d (x.trans e) q z
  | bad => exact h
theorem Sat.imp (h : Sat F μ H r σ W P) (i : ∀ a μ' S' H', Ext μ H μ' H' → Rel F μ' S' H' → P a μ' S' H' → P' a μ' S' H') : Sat F μ H r σ W P' := by
  cases r with
  | ok a S => exact fun μ2 H2 e q => i _ _ _ _ e q (h μ2 H2 e q)
  | ex a S => exact h
  | bad => exact h
theorem Sat.bind {f : α → List O → R β} {Q : β → Mu → List O → Hp → Prop} (h : Sat F μ H (r.bind f) σ W Q) :
    Sat F μ H r σ W fun a μ' S' H' => Sat F μ' H' (f a S') σ W Q := by
  cases r with
  | ok a S => exact fun μ2 H2 e q => Sat.mono e h
  | ex a S => exact h
  | bad => exact h
theorem Sat.map {f : α → β} {Q : β → Mu → List O → Hp → Prop} (h : Sat F μ H (r.map f) σ W Q) :
    Sat F μ H r σ W fun a μ' S' H' => Q (f a) μ' S' H' := by
  cases r with
  | ok a S => exact h
  | ex a S => exact h
  | bad => exact h
theorem Sat.here {a : α} {S : List O} (h : Sat F μ H (.ok a S) σ W P) (rel : Rel F μ S H) : P a μ S H := h μ H (Ext.refl _ _) rel
end
abbrev PD (F : Fx) (Q : VK) : D → Mu → List O → Hp → Prop := fun d μ' _ H' => ∀ v, Rep F μ' H' d v → Q v H'
theorem Sat.p1 {F : Fx} {μ : Mu} {H : Hp} {σ : L2.St} {W : WX} {r : R D} {Q : VK} (h : Sat F μ H r.prim σ W (PD F Q)) : P1 F μ H r Q := by
  cases r with
  | ok d S => exact fun μ' H' v e q z => h μ' H' e q v z
  | ex x S => exact h
  | bad => exact h

/-! ### readings -/
section
variable (F : Fx) (W : WX) (hi : Option Hi)
def tE (f : Env' → List O → R D) : TE := fun σ H Q => ∃ ρ μ S, EnvR F hi μ H ρ σ ∧ Rel F μ S H ∧ Sat F μ H (f ρ S) σ W (PD F Q)
def tA (f : Env' → List O → R (List D)) : TA := fun σ H Q => ∃ ρ μ S, EnvR F hi μ H ρ σ ∧ Rel F μ S H ∧ Sat F μ H (f ρ S) σ W fun ds μ' _ H' => ∀ vs, RepL F μ' H' ds vs → Q vs H'
def tT (f : Env' → List O → R Bool) : TT := fun σ H Q => ∃ ρ μ S, EnvR F hi μ H ρ σ ∧ Rel F μ S H ∧ Sat F μ H (f ρ S) σ W fun b _ _ H' => Q b H'
def tO (f : Env' → List O → R (Option Int)) : TO := fun σ H Q => ∃ ρ μ S, EnvR F hi μ H ρ σ ∧ Rel F μ S H ∧ Sat F μ H (f ρ S) σ W fun b _ _ H' => Q b H'
end
/-- J yields s -/
def ItOk (F : Fx) (μ : Mu) (H : Hp) (s : Src) (J : It) : Prop := ∀ μ' S' H', Ext μ H μ' H' → Rel F μ' S' H' → gdOk S' s.gd →
  J.stop s.its.length H' ∧ ∀ i d, s.its[i]? = some d → J.go i H' ∧ ∀ x H3, J.yld i H' x H3 → Ext μ' H' μ' H3 ∧ Rel F μ' S' H3 ∧ Rep F μ' H3 d x
def tI (F : Fx) (W : WX) (hi : Option Hi) (f : Env' → List O → R Src) : TI := fun σ H R => ∃ ρ μ S, EnvR F hi μ H ρ σ ∧ Rel F μ S H ∧ Sat F μ H (f ρ S) σ W fun s μ' _ H' => ∀ J, ItOk F μ' H' s J → R J H'

section
variable {X : Cx} {F : Fx} {W : WX} {hi : Option Hi}
theorem PE.imp {e : Expr} {t t' : TE} (h : PE X e t) (i : ∀ σ H Q, t' σ H Q → t σ H Q) : PE X e t' := ⟨fun pins s σ H Q I q => h.run pins s σ H Q I (i _ _ _ q)⟩
theorem PT.imp {e : Expr} {t t' : TT} (h : PT X e t) (i : ∀ σ H Q, t' σ H Q → t σ H Q) : PT X e t' := ⟨fun pins s σ H Q I q => h.run pins s σ H Q I (i _ _ _ q)⟩
theorem PA.imp {es : List Expr} {t t' : TA} (h : PA X es t) (i : ∀ σ H Q, t' σ H Q → t σ H Q) : PA X es t' := ⟨fun pos pins s σ H Q I q => h.run pos pins s σ H Q I (i _ _ _ q)⟩
theorem PI.imp {tg e : Expr} {t t' : TI} (h : PI X tg e t) (i : ∀ σ H Q, t' σ H Q → t σ H Q) : PI X tg e t' := ⟨fun pins s σ H Q I q => h.run pins s σ H Q I (i _ _ _ q)⟩
theorem PW.imp {e : Expr} {t t' : TT} (h : PW X e t) (i : ∀ σ H Q, t' σ H Q → t σ H Q) : PW X e t' := ⟨fun wh pins s σ H Q I q => h.run wh pins s σ H Q I (i _ _ _ q)⟩

/-- a first evaluation, its value told -/
theorem tE.go {f : Env' → List O → R D} {g : D → List O → R D} {σ : L2.St} {H : Hp} {ρ : Env'} {μ : Mu} {S : List O} {Q : VK} {K : VK}
    (e : EnvR F hi μ H ρ σ) (rel : Rel F μ S H) (h : Sat F μ H ((f ρ S).bind g) σ W (PD F Q))
    (k : ∀ d μ' S' H' v, Ext μ H μ' H' → EnvR F hi μ' H' ρ σ → Rel F μ' S' H' → Rep F μ' H' d v → Sat F μ' H' (g d S') σ W (PD F Q) → K v H') : tE F W hi f σ H K :=
  ⟨ρ, μ, S, e, rel, h.bind.imp fun d μ' S' H' x rel' q v r => k d μ' S' H' v x (e.mono x) rel' r q⟩
/-- .. within any chain of evaluations -/
theorem tE.goP {α : Type} {f : Env' → List O → R D} {g : D → List O → R α} {σ : L2.St} {H : Hp} {ρ : Env'} {μ : Mu} {S : List O} {P : α → Mu → List O → Hp → Prop} {K : VK}
    (e : EnvR F hi μ H ρ σ) (rel : Rel F μ S H) (h : Sat F μ H ((f ρ S).bind g) σ W P)
    (k : ∀ d μ' S' H' v, Ext μ H μ' H' → EnvR F hi μ' H' ρ σ → Rel F μ' S' H' → Rep F μ' H' d v → Sat F μ' H' (g d S') σ W P → K v H') : tE F W hi f σ H K :=
  ⟨ρ, μ, S, e, rel, h.bind.imp fun d μ' S' H' x rel' q v r => k d μ' S' H' v x (e.mono x) rel' r q⟩
theorem tA.goP {α : Type} {f : Env' → List O → R (List D)} {g : List D → List O → R α} {σ : L2.St} {H : Hp} {ρ : Env'} {μ : Mu} {S : List O} {P : α → Mu → List O → Hp → Prop} {K : List V → Hp → Prop}
    (e : EnvR F hi μ H ρ σ) (rel : Rel F μ S H) (h : Sat F μ H ((f ρ S).bind g) σ W P)
    (k : ∀ ds μ' S' H' vs, Ext μ H μ' H' → EnvR F hi μ' H' ρ σ → Rel F μ' S' H' → RepL F μ' H' ds vs → Sat F μ' H' (g ds S') σ W P → K vs H') : tA F W hi f σ H K :=
  ⟨ρ, μ, S, e, rel, h.bind.imp fun d μ' S' H' x rel' q v r => k d μ' S' H' v x (e.mono x) rel' r q⟩
theorem tO.goP {α : Type} {f : Env' → List O → R (Option Int)} {g : Option Int → List O → R α} {σ : L2.St} {H : Hp} {ρ : Env'} {μ : Mu} {S : List O} {P : α → Mu → List O → Hp → Prop} {K : Option Int → Hp → Prop}
    (e : EnvR F hi μ H ρ σ) (rel : Rel F μ S H) (h : Sat F μ H ((f ρ S).bind g) σ W P)
    (k : ∀ o μ' S' H', Ext μ H μ' H' → EnvR F hi μ' H' ρ σ → Rel F μ' S' H' → Sat F μ' H' (g o S') σ W P → K o H') : tO F W hi f σ H K :=
  ⟨ρ, μ, S, e, rel, h.bind.imp fun d μ' S' H' x rel' q => k d μ' S' H' x (e.mono x) rel' q⟩
theorem tT.goP {α : Type} {f : Env' → List O → R Bool} {g : Bool → List O → R α} {σ : L2.St} {H : Hp} {ρ : Env'} {μ : Mu} {S : List O} {P : α → Mu → List O → Hp → Prop} {K : Bool → Hp → Prop}
    (e : EnvR F hi μ H ρ σ) (rel : Rel F μ S H) (h : Sat F μ H ((f ρ S).bind g) σ W P)
    (k : ∀ o μ' S' H', Ext μ H μ' H' → EnvR F hi μ' H' ρ σ → Rel F μ' S' H' → Sat F μ' H' (g o S') σ W P → K o H') : tT F W hi f σ H K :=
  ⟨ρ, μ, S, e, rel, h.bind.imp fun d μ' S' H' x rel' q => k d μ' S' H' x (e.mono x) rel' q⟩

/-! ### constants, names -/
theorem sE_c {e : Expr} {d : D} {v : V} (h : PE X e (tC v)) (r : ∀ μ H, Rep F μ H d v) : PE X e (tE F W hi fun _ S => .ok d S) :=
  PE.imp h fun σ H Q ⟨ρ, μ, S, _, rel, q⟩ => q.here rel v (r μ H)
theorem sE_var {i : Nat} {x : Str} {pos : Pos} (hN : X.N[i]? = some x) (hv : Vis X.env.scope x) (hd : (x == ("__debug__" : Str)) = false) (hcd : (x == ("__classdict__" : Str)) = false) :
    PE X (.Name x pos) (tE F W hi fun ρ S => match ρ[i]? with
      | some (some d) => .ok d S
      | _ => .bad) :=
  PE.imp (pe_var hN hv hd hcd) fun σ H Q ⟨ρ, μ, S, e, rel, q⟩ => by
    have q' : Sat F μ H (match ρ[i]? with
      | some (some d) => .ok d S
      | _ => .bad) σ W (PD F Q) := q
    split at q'
    · rename_i d hd
      obtain ⟨v, hv, r⟩ := e.1.2 i d hd
      exact ⟨v, hv, q'.here rel v r⟩
    · exact q'.elim

/-! ### operations -/
theorem sE_op2 {f g : Env' → List O → R D} {op : D → D → List O → R D} {e : Expr}
    (rule : PE X e (tOp (rP2 F op) (tE F W hi f) (tE F W hi g))) : PE X e (tE F W hi fun ρ S => (f ρ S).bind fun x S => (g ρ S).bind fun y S => (op x y S).prim) :=
  PE.imp rule fun σ H Q ⟨ρ, μ, S, e, rel, q⟩ => tE.goP e rel q fun d μ1 S1 H1 v x1 e1 r1 rd q1 => tE.goP e1 r1 q1 fun d2 μ2 S2 H2 v2 x2 e2 r2 rd2 q2 =>
    ⟨μ2, S2, d, d2, r2, rd.mono x2, rd2, q2.p1⟩
theorem sE_op1 {f : Env' → List O → R D} {op : D → List O → R D} {r : V → Hp → VK → Prop} {e : Expr}
    (rule : PE X e (tUn r (tE F W hi f))) (hr : ∀ μ S d v H Q, Rel F μ S H → Rep F μ H d v → P1 F μ H (op d S) Q → r v H Q) : PE X e (tE F W hi fun ρ S => (f ρ S).bind fun x S => (op x S).prim) :=
  PE.imp rule fun σ H Q ⟨ρ, μ, S, e, rel, q⟩ => tE.goP e rel q fun d μ1 S1 H1 v x1 e1 r1 rd q1 => hr μ1 S1 d v H1 Q r1 rd q1.p1
theorem sE_neg {a : Expr} {f : Env' → List O → R D} {pos : Pos} (ha : PE X a (tE F W hi f)) : PE X (.UnaryOp .USub a pos) (tE F W hi fun ρ S => (f ρ S).bind fun x S => (negD x S).prim) :=
  sE_op1 (pe_un un_neg ha) fun μ S d v H Q rel rd p => by
    unfold negD at p
    split at p
    · cases rep_int rd
      exact ⟨_, rfl, p.here rel rfl⟩
    · exact p.elim
theorem sE_nt {a : Expr} {f : Env' → List O → R D} {pos : Pos} (ha : PE X a (tE F W hi f)) : PE X (.UnaryOp .Not a pos) (tE F W hi fun ρ S => (f ρ S).bind fun x S => (ntD x S).prim) :=
  PE.imp (pe_not ha) fun σ H Q ⟨ρ, μ, S, e, rel, q⟩ => tE.goP e rel q fun d μ1 S1 H1 v x1 e1 r1 rd q1 => by
    have p := q1.p1
    unfold ntD at p
    split at p
    · cases (show _ = _ from rd)
      exact ⟨_, rfl, p.here r1 rfl⟩
    · exact p.elim
theorem sE_and {a b : Expr} {rest : List Expr} {f g : Env' → List O → R D} {pos : Pos} (ha : PE X a (tE F W hi f)) (hb : PE X (.BoolOp .And (b :: rest) pos) (tE F W hi g)) :
    PE X (.BoolOp .And (a :: b :: rest) pos) (tE F W hi fun ρ S => (f ρ S).bind fun x S => (match x with
      | .bl true => g ρ S
      | .bl false => .ok (.bl false) S
      | _ => .bad)) :=
  PE.imp (pe_and ha hb) fun σ H Q ⟨ρ, μ, S, e, rel, q⟩ => tE.goP e rel q fun d μ1 S1 H1 v x1 e1 r1 rd q1 => by
    have q2 : Sat F μ1 H1 (match d with
      | .bl true => g ρ S1
      | .bl false => .ok (.bl false) S1
      | _ => .bad) σ W (PD F Q) := q1
    split at q2
    · cases (show _ = _ from rd)
      exact ⟨true, rfl, by rw [if_pos rfl]; exact ⟨ρ, μ1, S1, e1, r1, q2⟩⟩
    · cases (show _ = _ from rd)
      exact ⟨false, rfl, by rw [if_neg (by decide)]; exact q2.here r1 _ rfl⟩
    · exact q2.elim
theorem sE_or {a b : Expr} {rest : List Expr} {f g : Env' → List O → R D} {pos : Pos} (ha : PE X a (tE F W hi f)) (hb : PE X (.BoolOp .Or (b :: rest) pos) (tE F W hi g)) :
    PE X (.BoolOp .Or (a :: b :: rest) pos) (tE F W hi fun ρ S => (f ρ S).bind fun x S => (match x with
      | .bl true => .ok (.bl true) S
      | .bl false => g ρ S
      | _ => .bad)) :=
  PE.imp (pe_or ha hb) fun σ H Q ⟨ρ, μ, S, e, rel, q⟩ => tE.goP e rel q fun d μ1 S1 H1 v x1 e1 r1 rd q1 => by
    have q2 : Sat F μ1 H1 (match d with
      | .bl true => .ok (.bl true) S1
      | .bl false => g ρ S1
      | _ => .bad) σ W (PD F Q) := q1
    split at q2
    · cases (show _ = _ from rd)
      exact ⟨true, rfl, by rw [if_pos rfl]; exact q2.here r1 _ rfl⟩
    · cases (show _ = _ from rd)
      exact ⟨false, rfl, by rw [if_neg (by decide)]; exact ⟨ρ, μ1, S1, e1, r1, q2⟩⟩
    · exact q2.elim
theorem sE_chain {o o' : CmpOp} {a b c : Expr} {f g h : Env' → List O → R D} {pos : Pos} (hk : F.K = X.K) (hu : X.A.units + 64 < cLine) (ha : PE X a (tE F W hi f)) (hb : PE X b (tE F W hi g)) (hc : PE X c (tE F W hi h)) (hm : lastMarks [o, o'] [b, c] = false) :
    PE X (.Compare a [o, o'] [b, c] pos) (tE F W hi fun ρ S => (f ρ S).bind fun x S => (g ρ S).bind fun y S => (cmpD o x y S).prim.bind fun z S => (match z with
      | .bl true => (h ρ S).bind fun w S => (cmpD o' y w S).prim
      | .bl false => .ok (.bl false) S
      | _ => .bad)) :=
  PE.imp (pe_chain (op_cmpS hk hu o) (op_cmpS hk hu o') ha hb hc hm) fun σ H Q ⟨ρ, μ, S, e, rel, q⟩ => tE.goP e rel q fun d μ1 S1 H1 v x1 e1 r1 rd q1 => tE.goP e1 r1 q1 fun d2 μ2 S2 H2 v2 x2 e2 r2 rd2 q2 => by
    refine ⟨μ2, S2, d, d2, r2, rd.mono x2, rd2, Sat.p1 (σ := σ) (W := W) (q2.bind.imp fun z μ3 S3 H3 x3 r3 q3 v3 rz => ?_)⟩
    have q4 : Sat F μ3 H3 (match z with
      | .bl true => (h ρ S3).bind fun w S => (cmpD o' d2 w S).prim
      | .bl false => .ok (.bl false) S3
      | _ => .bad) σ W (PD F Q) := q3
    split at q4
    · cases (show _ = _ from rz)
      refine ⟨true, rfl, ?_⟩
      rw [if_pos rfl]
      exact tE.goP (e2.mono x3) r3 q4 fun d4 μ4 S4 H4 v4 x4 e4 r4 rd4 q5 => ⟨μ4, S4, d2, d4, r4, (rd2.mono x3).mono x4, rd4, q5.p1⟩
    · cases (show _ = _ from rz)
      exact ⟨false, rfl, by rw [if_neg (by decide)]; exact q4.here r3 _ rfl⟩
    · exact q4.elim

/-! ### tests -/
/-- an expression that is no not, and, or, comparison, conditional -/
def plainT : Expr → Bool
  | .UnaryOp .Not _ _ => false
  | .BoolOp .. => false
  | .IfExp .. => false
  | .Compare .. => false
  | _ => true
theorem plainT_is {a : Expr} {env : Env} (h : plainT a = true) (whole : Sem Value) : isTrue a env whole = (do let v ← whole; standAt a.pos; holding [v] (truthy v)) := by
  cases a with
  | UnaryOp op x pos =>
    cases op with
    | Not => exact (Bool.false_ne_true h).elim
    | _ => rfl
  | BoolOp op es pos => exact (Bool.false_ne_true h).elim
  | IfExp c a b pos => exact (Bool.false_ne_true h).elim
  | Compare l o r pos => exact (Bool.false_ne_true h).elim
  | _ => rfl
def tstF (f : Env' → List O → R D) : Env' → List O → R Bool := fun ρ S => (f ρ S).bind fun d S => tstD d S
theorem pt_S {a : Expr} {ta : TE} (hk : F.K = X.K) (ha : PE X a ta) (hp : plainT a = true) : PT X a (fun σ H Q => ta σ H fun x H' => rPt F x H' Q) := by
  refine ⟨fun pins s σ H Q I h => ?_⟩
  rw [plainT_is hp]
  exact wpAny_bind (thn (ha.run pins s σ H _ I h) fun v s1 ⟨x, H1, I1, r1, q1⟩ => wpAny_bind (wpAny_standAt (wpAny_holding (tru_S hk pins s1 σ H1 x v Q I1 r1 q1))))
end
end Ev
end
section
set_option Elab.async false
set_option linter.all false
set_option maxRecDepth 100000
set_option maxHeartbeats 4000000
set_option autoImplicit false
/-! Ev, part F: tests, displays, calls. -/
namespace Ev
open PySem PySem.Spec PyProof.Rows L2

/-- may stand as a test -/
def tsB : Expr → Bool
  | .IfExp .. => false
  | _ => true
structure OkE (X : Cx) (F : Fx) (W : WX) (hi : Option Hi) (e : Expr) (f : Env' → List O → R D) : Prop where
  pe : PE X e (tE F W hi f)
  pt : tsB e = true → PT X e (tT F W hi (tstF f))
  pw : (∃ op es pos, e = .BoolOp op es pos) → PW X e (tT F W hi (tstF f))

section
variable {X : Cx} {F : Fx} {W : WX} {hi : Option Hi}
theorem rPt_of {μ : Mu} {H : Hp} {S : List O} {d : D} {x : V} {σ : L2.St} {Q : Bool → Hp → Prop} (rel : Rel F μ S H) (rd : Rep F μ H d x) (h : Sat F μ H (tstD d S) σ W fun b _ _ H' => Q b H') : rPt F x H Q := by
  unfold tstD at h
  split at h
  · rename_i b hb
    exact ⟨μ, S, d, b, rel, rd, hb, h.here rel⟩
  · exact h.elim
theorem OkE.plain {e : Expr} {f : Env' → List O → R D} (hk : F.K = X.K) (h : PE X e (tE F W hi f)) (hp : plainT e = true) : OkE X F W hi e f :=
  ⟨h, fun _ => PT.imp (pt_S hk h hp) fun σ H Q ⟨ρ, μ, S, e, rel, q⟩ => tE.goP e rel q fun d μ1 S1 H1 v x1 e1 r1 rd q1 => rPt_of r1 rd q1,
    fun ⟨op, es, pos, z⟩ => by subst z; exact (Bool.false_ne_true hp).elim⟩
/-- from a test told by a bool value -/
theorem pt_bl {e : Expr} {f : Env' → List O → R D} (h : ∀ {g : Env' → List O → R D}, PE X e (tE F W hi f)) (ht : PT X e (tTest (tE F W hi f))) (hb : ∀ ρ S d S', f ρ S = .ok d S' → ∃ b, d = .bl b) :
    PT X e (tT F W hi (tstF f)) :=
  PT.imp ht fun σ H Q ⟨ρ, μ, S, e, rel, q⟩ => ⟨ρ, μ, S, e, rel, by
    have q' : Sat F μ H ((f ρ S).bind fun d S => tstD d S) σ W fun b _ _ H' => Q b H' := q
    cases hf : f ρ S with
    | ok d S' =>
      obtain ⟨b, rfl⟩ := hb _ _ _ _ hf
      rw [hf] at q'
      intro μ' H' x r v rv
      cases (show _ = _ from rv)
      exact ⟨b, rfl, q' μ' H' x r⟩
    | ex x S' => rw [hf] at q'; exact q'
    | bad => rw [hf] at q'; exact q'⟩
theorem ok_ite {α : Type} {c : Prop} [Decidable c] {a b : R α} {d : α} {S : List O} (h : (if c then a else b) = .ok d S) : a = .ok d S ∨ b = .ok d S := by
  split at h
  · exact .inl h
  · exact .inr h
theorem cmpD_bl {o : CmpOp} {x y d : D} {S S' : List O} (h : cmpD o x y S = .ok d S') : ∃ b, d = .bl b := by
  have key : ∀ {b : Bool} {S : List O}, R.ok (.bl b) S = .ok d S' → ∃ b, d = .bl b := fun h => by cases h; exact ⟨_, rfl⟩
  have bd : (R.bad : R D) = .ok d S' → ∃ b, d = .bl b := fun h => nomatch h
  cases o <;> simp only [cmpD] at h
  case Eq | NotEq =>
    unfold eqDS at h
    split at h
    · rcases ok_ite h with h | h
      · exact key h
      · rcases ok_ite h with h | h
        · exact key h
        · exact bd h
    · split at h
      · rcases ok_ite h with h | h
        · exact key h
        · rcases ok_ite h with h | h
          · exact key h
          · exact bd h
      · rcases ok_ite h with h | h
        · exact key h
        · exact bd h
  case Lt =>
    unfold ltD at h
    split at h <;> first | exact key h | exact bd h
  case LtE | Gt | GtE =>
    unfold ordD at h
    split at h <;> first | exact key h | exact bd h
  case Is | IsNot =>
    unfold isD at h
    split at h <;> first | exact key h | exact bd h
  case In | NotIn =>
    unfold inDS at h
    split at h
    · split at h <;> first | exact key h | exact bd h
    · split at h
      · split at h <;> first | exact key h | exact bd h
      · split at h <;> first | exact key h | exact bd h
theorem prim_ok {α : Type} {r : R α} {d : α} {S : List O} (h : r.prim = .ok d S) : r = .ok d S := by
  cases r <;> first | exact h | exact nomatch h
theorem bind_ok {α β : Type} {r : R α} {g : α → List O → R β} {d : β} {S : List O} (h : r.bind g = .ok d S) : ∃ a S1, r = .ok a S1 ∧ g a S1 = .ok d S := by
  cases r with
  | ok a S1 => exact ⟨a, S1, rfl, h⟩
  | ex x S1 => exact nomatch h
  | bad => exact nomatch h

theorem OkE.cmp {o : CmpOp} {a b : Expr} {f g : Env' → List O → R D} {pos : Pos} (hk : F.K = X.K) (hu : X.A.units + 64 < cLine) (ha : OkE X F W hi a f) (hb : OkE X F W hi b g) (hm : behindInMarks o b = false) :
    OkE X F W hi (.Compare a [o] [b] pos) fun ρ S => (f ρ S).bind fun x S => (g ρ S).bind fun y S => (cmpD o x y S).prim := by
  have h1 := sE_op2 (pe_cmpR (pos := pos) (op_cmpS hk hu o) ha.pe hb.pe hm)
  refine ⟨h1, fun _ => pt_bl (fun {_} => h1) (PT.imp (pt_cmpR (op_cmpS hk hu o) ha.pe hb.pe hm) ?_) ?_, fun ⟨_, _, _, z⟩ => nomatch z⟩
  · intro σ H Q ⟨ρ, μ, S, e, rel, q⟩
    refine tE.goP e rel q fun d μ1 S1 H1 v x1 e1 r1 rd q1 => tE.goP e1 r1 q1 fun d2 μ2 S2 H2 v2 x2 e2 r2 rd2 q2 =>
      ⟨μ2, S2, d, d2, r2, rd.mono x2, rd2, ?_⟩
    exact Sat.p1 (σ := σ) (W := W) q2
  · intro ρ S d S' h
    obtain ⟨x, S1, _, h⟩ := bind_ok h
    obtain ⟨y, S2, _, h⟩ := bind_ok h
    exact cmpD_bl (prim_ok h)
theorem OkE.chain {o o' : CmpOp} {a b c : Expr} {f g h : Env' → List O → R D} {pos : Pos} (hk : F.K = X.K) (hu : X.A.units + 64 < cLine) (ha : OkE X F W hi a f) (hb : OkE X F W hi b g) (hc : OkE X F W hi c h) (hm : lastMarks [o, o'] [b, c] = false) :
    OkE X F W hi (.Compare a [o, o'] [b, c] pos) fun ρ S => (f ρ S).bind fun x S => (g ρ S).bind fun y S => (cmpD o x y S).prim.bind fun z S => (match z with
      | .bl true => (h ρ S).bind fun w S => (cmpD o' y w S).prim
      | .bl false => .ok (.bl false) S
      | _ => .bad) := by
  have h1 := sE_chain (pos := pos) hk hu ha.pe hb.pe hc.pe hm
  refine ⟨h1, fun _ => pt_bl (fun {_} => h1) (PT.imp (pt_chain (op_cmpS hk hu o) (op_cmpS hk hu o') ha.pe hb.pe hc.pe hm) ?_) ?_, fun ⟨_, _, _, z⟩ => nomatch z⟩
  · intro σ H Q ⟨ρ, μ, S, e, rel, q⟩
    refine tE.goP e rel q fun d μ1 S1 H1 v x1 e1 r1 rd q1 => tE.goP e1 r1 q1 fun d2 μ2 S2 H2 v2 x2 e2 r2 rd2 q2 => ?_
    refine ⟨μ2, S2, d, d2, r2, rd.mono x2, rd2, Sat.p1 (σ := σ) (W := W) (q2.bind.imp fun z μ3 S3 H3 x3 r3 q3 v3 rz => ?_)⟩
    have q4 : Sat F μ3 H3 (match z with
      | .bl true => (h ρ S3).bind fun w S => (cmpD o' d2 w S).prim
      | .bl false => .ok (.bl false) S3
      | _ => .bad) σ W (PD F fun x H' => ∃ k, x = .bl k ∧ Q k H') := q3
    split at q4
    · cases (show _ = _ from rz)
      refine ⟨true, rfl, ?_⟩
      rw [if_pos rfl]
      exact tE.goP (e2.mono x3) r3 q4 fun d4 μ4 S4 H4 v4 x4 e4 r4 rd4 q5 => ⟨μ4, S4, d2, d4, r4, (rd2.mono x3).mono x4, rd4, q5.p1⟩
    · cases (show _ = _ from rz)
      exact ⟨false, rfl, by rw [if_neg (by decide)]; exact q4.here r3 _ rfl⟩
    · exact q4.elim
  · intro ρ S d S' hh
    obtain ⟨x, S1, _, hh⟩ := bind_ok hh
    obtain ⟨y, S2, _, hh⟩ := bind_ok hh
    obtain ⟨z, S3, _, hh⟩ := bind_ok hh
    split at hh
    · obtain ⟨w, S4, _, hh⟩ := bind_ok hh
      exact cmpD_bl (prim_ok hh)
    · cases hh; exact ⟨_, rfl⟩
    · exact nomatch hh
/-- as a test: what it gives is a bool first -/
theorem OkE.nt {a : Expr} {f : Env' → List O → R D} {pos : Pos} (ha : OkE X F W hi a f) (hs : tsB a = true) : OkE X F W hi (.UnaryOp .Not a pos) fun ρ S => (f ρ S).bind fun x S => (ntD x S).prim := by
  refine ⟨sE_nt ha.pe, fun _ => PT.imp (pt_not (ha.pt hs)) ?_, fun ⟨_, _, _, z⟩ => nomatch z⟩
  intro σ H Q ⟨ρ, μ, S, e, rel, q⟩
  refine ⟨ρ, μ, S, e, rel, ?_⟩
  have q' : Sat F μ H (((f ρ S).bind fun x S => (ntD x S).prim).bind fun d S => tstD d S) σ W fun b _ _ H' => Q b H' := q
  show Sat F μ H ((f ρ S).bind fun d S => tstD d S) σ W fun b _ _ H' => Q (!b) H'
  cases hf : f ρ S with
  | ok d S' =>
    rw [hf] at q'
    have q2 : Sat F μ H ((ntD d S').prim.bind fun d S => tstD d S) σ W fun b _ _ H' => Q b H' := q'
    unfold ntD at q2
    split at q2
    · exact q2
    · exact q2.elim
  | ex x S' => rw [hf] at q'; exact q'
  | bad => rw [hf] at q'; exact q'
theorem OkE.one {op : BoolOp} {a : Expr} {f : Env' → List O → R D} {pos : Pos} (ha : OkE X F W hi a f) (hs : tsB a = true) : OkE X F W hi (.BoolOp op [a] pos) f := by
  have h : PW X (.BoolOp op [a] pos) (tT F W hi (tstF f)) := by
    cases op
    · exact pw_and1 (ha.pt hs)
    · exact pw_or1 (ha.pt hs)
  exact ⟨pe_one ha.pe, fun _ => h.pt, fun _ => h⟩
theorem OkE.and {a b : Expr} {rest : List Expr} {f g : Env' → List O → R D} {pos : Pos} (ha : OkE X F W hi a f) (hs : tsB a = true) (hb : OkE X F W hi (.BoolOp .And (b :: rest) pos) g) :
    OkE X F W hi (.BoolOp .And (a :: b :: rest) pos) fun ρ S => (f ρ S).bind fun x S => (match x with
      | .bl true => g ρ S
      | .bl false => .ok (.bl false) S
      | _ => .bad) := by
  have h : PW X (.BoolOp .And (a :: b :: rest) pos) (tT F W hi (tstF fun ρ S => (f ρ S).bind fun x S => (match x with
      | .bl true => g ρ S
      | .bl false => .ok (.bl false) S
      | _ => .bad))) := by
    refine PW.imp (pw_and (ha.pt hs) (hb.pw ⟨_, _, _, rfl⟩)) ?_
    intro σ H Q ⟨ρ, μ, S, e, rel, q⟩
    refine ⟨ρ, μ, S, e, rel, ?_⟩
    have q' : Sat F μ H (((f ρ S).bind fun x S => (match x with
      | .bl true => g ρ S
      | .bl false => .ok (.bl false) S
      | _ => .bad)).bind fun d S => tstD d S) σ W fun b _ _ H' => Q b H' := q
    show Sat F μ H ((f ρ S).bind fun d S => tstD d S) σ W fun c _ _ H1 => if c = true then tT F W hi (tstF g) σ H1 Q else Q false H1
    cases hf : f ρ S with
    | ok d S' =>
      rw [hf] at q'
      have q2 : Sat F μ H ((match d with
        | .bl true => g ρ S'
        | .bl false => .ok (.bl false) S'
        | _ => .bad).bind fun d S => tstD d S) σ W fun b _ _ H' => Q b H' := q'
      split at q2
      · intro μ' H' x r
        rw [if_pos rfl]
        exact ⟨ρ, μ', S', e.mono x, r, q2.mono x⟩
      · intro μ' H' x r
        rw [if_neg (by decide)]
        exact q2 μ' H' x r
      · exact q2.elim
    | ex x S' => rw [hf] at q'; exact q'
    | bad => rw [hf] at q'; exact q'
  exact ⟨sE_and ha.pe hb.pe, fun _ => h.pt, fun _ => h⟩
theorem OkE.or {a b : Expr} {rest : List Expr} {f g : Env' → List O → R D} {pos : Pos} (ha : OkE X F W hi a f) (hs : tsB a = true) (hb : OkE X F W hi (.BoolOp .Or (b :: rest) pos) g) :
    OkE X F W hi (.BoolOp .Or (a :: b :: rest) pos) fun ρ S => (f ρ S).bind fun x S => (match x with
      | .bl true => .ok (.bl true) S
      | .bl false => g ρ S
      | _ => .bad) := by
  have h : PW X (.BoolOp .Or (a :: b :: rest) pos) (tT F W hi (tstF fun ρ S => (f ρ S).bind fun x S => (match x with
      | .bl true => .ok (.bl true) S
      | .bl false => g ρ S
      | _ => .bad))) := by
    refine PW.imp (pw_or (ha.pt hs) (hb.pw ⟨_, _, _, rfl⟩)) ?_
    intro σ H Q ⟨ρ, μ, S, e, rel, q⟩
    refine ⟨ρ, μ, S, e, rel, ?_⟩
    have q' : Sat F μ H (((f ρ S).bind fun x S => (match x with
      | .bl true => .ok (.bl true) S
      | .bl false => g ρ S
      | _ => .bad)).bind fun d S => tstD d S) σ W fun b _ _ H' => Q b H' := q
    show Sat F μ H ((f ρ S).bind fun d S => tstD d S) σ W fun c _ _ H1 => if c = true then Q true H1 else tT F W hi (tstF g) σ H1 Q
    cases hf : f ρ S with
    | ok d S' =>
      rw [hf] at q'
      have q2 : Sat F μ H ((match d with
        | .bl true => R.ok (D.bl true) S'
        | .bl false => g ρ S'
        | _ => .bad).bind fun d S => tstD d S) σ W fun b _ _ H' => Q b H' := q'
      split at q2
      · intro μ' H' x r
        rw [if_pos rfl]
        exact q2 μ' H' x r
      · intro μ' H' x r
        rw [if_neg (by decide)]
        exact ⟨ρ, μ', S', e.mono x, r, q2.mono x⟩
      · exact q2.elim
    | ex x S' => rw [hf] at q'; exact q'
    | bad => rw [hf] at q'; exact q'
  exact ⟨sE_or ha.pe hb.pe, fun _ => h.pt, fun _ => h⟩
theorem OkE.ite {c a b : Expr} {h f g : Env' → List O → R D} {pos : Pos} (hc : OkE X F W hi c h) (hs : tsB c = true) (ha : OkE X F W hi a f) (hb : OkE X F W hi b g) :
    OkE X F W hi (.IfExp c a b pos) fun ρ S => (h ρ S).bind fun x S => (tstD x S).bind fun k S => if k = true then f ρ S else g ρ S := by
  refine ⟨PE.imp (pe_ifExp (hc.pt hs) ha.pe hb.pe) ?_, fun z => (Bool.false_ne_true z).elim, fun ⟨_, _, _, z⟩ => nomatch z⟩
  intro σ H Q ⟨ρ, μ, S, e, rel, q⟩
  refine ⟨ρ, μ, S, e, rel, ?_⟩
  show Sat F μ H ((h ρ S).bind fun d S => tstD d S) σ W _
  have q' : Sat F μ H ((h ρ S).bind fun x S => (tstD x S).bind fun k S => if k = true then f ρ S else g ρ S) σ W (PD F Q) := q
  have e3 : ((h ρ S).bind fun x S => (tstD x S).bind fun k S => if k = true then f ρ S else g ρ S) = ((h ρ S).bind fun d S => tstD d S).bind fun k S => if k = true then f ρ S else g ρ S := by
    cases h ρ S <;> rfl
  rw [e3] at q'
  refine q'.bind.imp fun k μ1 S1 H1 x1 r1 q1 => ?_
  by_cases hk : k = true
  · rw [if_pos hk] at q1 ⊢
    exact ⟨ρ, μ1, S1, e.mono x1, r1, q1⟩
  · rw [if_neg hk] at q1 ⊢
    exact ⟨ρ, μ1, S1, e.mono x1, r1, q1⟩

/-! ### lists of arguments -/
def plainA : Expr → Bool
  | .Starred .. => false
  | _ => true
theorem star_is {e : Expr} {es : List Expr} {env : Env} (h : plainA e = true) : starEach (e :: es) env = (false, eval e env) :: starEach es env := by
  cases e with
  | Starred x p => exact (Bool.false_ne_true h).elim
  | _ => rfl
theorem star_any {pos : Pos} {env : Env} : ∀ {es : List Expr}, es.all plainA = true → (backTo pos (starEach es env)).any (·.1) = false
  | [], _ => rfl
  | e :: es, h => by
    have h' := Bool.and_eq_true_iff.mp (show (plainA e && es.all plainA) = true from h)
    rw [star_is h'.1]
    show (false || (backTo pos (starEach es env)).any (·.1)) = false
    rw [star_any h'.2]; rfl
theorem sA_nil : PA X [] (tA F W hi fun _ S => .ok [] S) := PA.imp pa_nil fun σ H Q ⟨ρ, μ, S, e, rel, q⟩ => q.here rel [] rfl
theorem sA_cons {e : Expr} {es : List Expr} {f : Env' → List O → R D} {g : Env' → List O → R (List D)} (he : PE X e (tE F W hi f)) (hes : PA X es (tA F W hi g)) (hp : plainA e = true) :
    PA X (e :: es) (tA F W hi fun ρ S => (f ρ S).bind fun d S => (g ρ S).bind fun ds S => .ok (d :: ds) S) :=
  PA.imp (pa_cons he hes (star_is hp)) fun σ H Q ⟨ρ, μ, S, e, rel, q⟩ => tE.goP e rel q fun d μ1 S1 H1 v x1 e1 r1 rd q1 => tA.goP e1 r1 q1 fun ds μ2 S2 H2 vs x2 e2 r2 rds q2 =>
    q2.here r2 (v :: vs) ⟨v, vs, rfl, rd.mono x2, rds⟩
theorem sE_tup {es : List Expr} {g : Env' → List O → R (List D)} {k : Nat} {pos : Pos} (h : PA X es (tA F W hi g)) :
    PE X (.Tuple es k pos) (tE F W hi fun ρ S => (g ρ S).bind fun ds S => if ds.length ≤ sizeLine then .ok (.tup ds) S else .bad) :=
  PE.imp (pe_tup h) fun σ H Q ⟨ρ, μ, S, e, rel, q⟩ => tA.goP e rel q fun ds μ1 S1 H1 vs x1 e1 r1 rds q1 => by
    have q2 : Sat F μ1 H1 (if ds.length ≤ sizeLine then .ok (.tup ds) S1 else .bad) σ W (PD F Q) := q1
    split at q2
    · rename_i hz
      exact ⟨by rw [rds.length]; exact hz, P1.tup (Sat.p1 (σ := σ) (W := W) q2) r1 rds⟩
    · exact q2.elim
theorem sE_lst {es : List Expr} {g : Env' → List O → R (List D)} {pos : Pos} (h : PA X es (tA F W hi g)) :
    PE X (.List es pos) (tE F W hi fun ρ S => (g ρ S).bind fun ds S => if ds.length ≤ sizeLine then .ok (.ref S.length) (S ++ [.lst ds]) else .bad) :=
  PE.imp (pe_lst h) fun σ H Q ⟨ρ, μ, S, e, rel, q⟩ => tA.goP e rel q fun ds μ1 S1 H1 vs x1 e1 r1 rds q1 => by
    have q2 : Sat F μ1 H1 (if ds.length ≤ sizeLine then .ok (.ref S1.length) (S1 ++ [.lst ds]) else .bad) σ W (PD F Q) := q1
    split at q2
    · rename_i hz
      exact ⟨by rw [rds.length]; exact hz, P1.new (Sat.p1 (σ := σ) (W := W) q2) r1 fun a n => ⟨vs, upd_same, rds.mono (Ext.push n)⟩⟩
    · exact q2.elim
theorem sE_emp {k : Bool} {pos : Pos} : PE X (.Dict [] [] pos) (tE F W hi fun _ S => .ok (.ref S.length) (S ++ [if k = true then .dT [] [] else .dK [] []])) := by
  cases k with
  | true => exact PE.imp pe_dnewT fun σ H Q ⟨ρ, μ, S, e, rel, q⟩ => P1.new (Sat.p1 (σ := σ) (W := W) q) rel fun a n => ⟨[], upd_same, rfl, rfl⟩
  | false => exact PE.imp pe_dnewK fun σ H Q ⟨ρ, μ, S, e, rel, q⟩ => P1.new (Sat.p1 (σ := σ) (W := W) q) rel fun a n => ⟨[], upd_same, rfl, rfl⟩

theorem sE_flst {es : List Expr} {g : Env' → List O → R (List D)} {pos : Pos} (h : PA X es (tA F W hi g)) :
    PE X (.List es pos) (tE F W hi fun ρ S => (g ρ S).bind fun ds S => if ds.length ≤ sizeLine then .ok (.lst ds) S else .bad) :=
  PE.imp (pe_lst h) fun σ H Q ⟨ρ, μ, S, e, rel, q⟩ => tA.goP e rel q fun ds μ1 S1 H1 vs x1 e1 r1 rds q1 => by
    have q2 : Sat F μ1 H1 (if ds.length ≤ sizeLine then .ok (.lst ds) S1 else .bad) σ W (PD F Q) := q1
    split at q2
    · rename_i hz
      exact ⟨by rw [rds.length]; exact hz, P1.lst (Sat.p1 (σ := σ) (W := W) q2) r1 rds⟩
    · exact q2.elim
theorem sE_femp {k : Bool} {pos : Pos} : PE X (.Dict [] [] pos) (tE F W hi fun _ S => .ok (if k = true then .dt [] [] else .dk [] []) S) := by
  cases k with
  | true => exact PE.imp pe_dnewT fun σ H Q ⟨ρ, μ, S, e, rel, q⟩ a n => q μ _ (Ext.laid n) (rel.laid n) _ ⟨a, [], rfl, rel.fresh n, upd_same, rfl, rfl⟩
  | false => exact PE.imp pe_dnewK fun σ H Q ⟨ρ, μ, S, e, rel, q⟩ a n => q μ _ (Ext.laid n) (rel.laid n) _ ⟨a, [], rfl, rel.fresh n, upd_same, rfl, rfl⟩

/-! ### subscripts, slices -/
def plainI : Expr → Bool
  | .Slice .. => false
  | _ => true
theorem plainI_is {b : Expr} (h : plainI b = true) : PlainIx b := by
  cases b with
  | Slice l u s p => exact (Bool.false_ne_true h).elim
  | _ => intro o i; rfl
theorem sE_idx {a b : Expr} {f g : Env' → List O → R D} {pos : Pos} (hk : F.K = X.K) (hu : X.A.units + 64 < cLine) (ha : PE X a (tE F W hi f)) (hb : PE X b (tE F W hi g)) (hp : plainI b = true) :
    PE X (.Subscript a b pos) (tE F W hi fun ρ S => (f ρ S).bind fun x S => (g ρ S).bind fun y S => (idxD x y S).prim) :=
  sE_op2 (pe_ix (ix_S hk hu) ha hb (plainI_is hp))
theorem sO_no : PO X none (tO F W hi fun _ S => .ok none S) := ⟨fun pins s σ H Q I ⟨ρ, μ, S, e, rel, q⟩ => po_none.run pins s σ H Q I (q.here rel)⟩
theorem sO_yes {e : Expr} {f : Env' → List O → R D} (h : PE X e (tE F W hi f)) : PO X (some e) (tO F W hi fun ρ S => (f ρ S).bind fun d S => optI d S) :=
  ⟨fun pins s σ H Q I ⟨ρ, μ, S, e, rel, q⟩ => (po_some h).run pins s σ H Q I (tE.goP e rel q fun d μ1 S1 H1 v x1 e1 r1 rd q1 => by
    have q2 : Sat F μ1 H1 (optI d S1) σ W fun b _ _ H' => Q b H' := q1
    unfold optI at q2
    split at q2
    · cases rep_int rd
      exact ⟨_, rfl, q2.here r1⟩
    · exact q2.elim)⟩
theorem sE_slc {a : Expr} {lo up : Option Expr} {f : Env' → List O → R D} {l h : Env' → List O → R (Option Int)} {pos p2 : Pos} (hk : F.K = X.K) (ha : PE X a (tE F W hi f)) (hl : PO X lo (tO F W hi l)) (hh : PO X up (tO F W hi h)) :
    PE X (.Subscript a (.Slice lo up none p2) pos) (tE F W hi fun ρ S => (f ρ S).bind fun x S => (l ρ S).bind fun lo S => (h ρ S).bind fun up S => (sliceD x lo up S).prim) :=
  PE.imp (pe_slice (sl_S hk) ha hl hh) fun σ H Q ⟨ρ, μ, S, e, rel, q⟩ => tE.goP e rel q fun d μ1 S1 H1 v x1 e1 r1 rd q1 => tO.goP e1 r1 q1 fun o1 μ2 S2 H2 x2 e2 r2 q2 =>
    tO.goP e2 r2 q2 fun o2 μ3 S3 H3 x3 e3 r3 q3 => ⟨μ3, S3, d, r3, (rd.mono x2).mono x3, q3.p1⟩
/-- a value's end told the same -/
theorem tE.frz {f : Env' → List O → R D} {g : Env' → List O → R D} {e : Expr} (h : PE X e (tE F W hi f))
    (i : ∀ ρ μ S H σ Q, Rel F μ S H → Sat F μ H (g ρ S) σ W (PD F Q) → Sat F μ H (f ρ S) σ W (PD F Q)) : PE X e (tE F W hi g) :=
  PE.imp h fun σ H Q ⟨ρ, μ, S, e, rel, q⟩ => ⟨ρ, μ, S, e, rel, i ρ μ S H σ Q rel q⟩

/-! ### built-in functions -/
theorem sE_callB {id : String} {r : List D → List O → R D} {x : Str} {p pos : Pos} {e : Expr} {es : List Expr} {g : Env' → List O → R (List D)} (hc : CallR X (.builtin id) (rPn F r)) (hg : Gl X x) (hm : X.mg x = none) (hv : bootBuiltins x = some (.builtin id))
    (ha : PA X (e :: es) (tA F W hi g)) (hn : x ≠ "__name__") (hdb : (x == ("__debug__" : Str)) = false) (hp : (e :: es).all plainA = true) :
    PE X (.Call (.Name x p) (e :: es) [] pos) (tE F W hi fun ρ S => (g ρ S).bind fun ds S => (r ds S).prim) := by
  have h' := Bool.and_eq_true_iff.mp (show (plainA e && es.all plainA) = true from hp)
  exact PE.imp (pe_callB hc hg hm hv ha hn hdb (star_is h'.1) (star_any h'.2)) fun σ H Q ⟨ρ, μ, S, e, rel, q⟩ => tA.goP e rel q fun ds μ1 S1 H1 vs x1 e1 r1 rds q1 => ⟨μ1, S1, ds, r1, rds, q1.p1⟩
theorem sE_callT {id : String} {r : List D → List O → R D} {x : Str} {p pos : Pos} {e : Expr} {es : List Expr} {g : Env' → List O → R (List D)} (hc : CallR X (.type id) (rPn F r)) (hg : Gl X x) (hm : X.mg x = none) (hv : bootBuiltins x = some (.type id))
    (ha : PA X (e :: es) (tA F W hi g)) (hn : x ≠ "__name__") (hdb : (x == ("__debug__" : Str)) = false) (hp : (e :: es).all plainA = true) :
    PE X (.Call (.Name x p) (e :: es) [] pos) (tE F W hi fun ρ S => (g ρ S).bind fun ds S => (r ds S).prim) := by
  have h' := Bool.and_eq_true_iff.mp (show (plainA e && es.all plainA) = true from hp)
  exact PE.imp (pe_callTy hc hg hm hv ha hn hdb (star_is h'.1) (star_any h'.2)) fun σ H Q ⟨ρ, μ, S, e, rel, q⟩ => tA.goP e rel q fun ds μ1 S1 H1 vs x1 e1 r1 rds q1 => ⟨μ1, S1, ds, r1, rds, q1.p1⟩
end
end Ev
end
section
set_option Elab.async false
set_option linter.all false
set_option maxRecDepth 100000
set_option maxHeartbeats 4000000
set_option autoImplicit false
/-! Ev, part G: calls, attributes, isinstance, methods, caught errors. -/
namespace Ev
open PySem PySem.Spec PyProof.Rows L2

def spD (F : Fx) (n : Nat) (r : List D → List O → R D) : Sp := fun vs H Q E => vs.length = n ∧ ∃ μ S ds, Rel F μ S H ∧ RepL F μ H ds vs ∧ (match r ds S with
  | .ok d S' => ∀ μ' H' v, Ext μ H μ' H' → Rel F μ' S' H' → Rep F μ' H' d v → Q v H'
  | .ex x S' => ∀ μ' H' cls dd, Ext μ H μ' H' → Rel F μ' S' H' → XRep F μ' H' x cls dd → E cls dd H'
  | .bad => False)

section
variable {X : Cx} {F : Fx} {W : WX} {hi : Option Hi} {t : Ct}
theorem sE_call {x : Str} {f : Addr} {fd : FuncData} {ps : List Str} {n k : Nat} {r : List D → List O → R D} {p pos : Pos} {e : Expr} {es : List Expr} {g : Env' → List O → R (List D)}
    (Ff : FnOk X.prog X.w X.K X.mg X.base (L2.CX X.prog X.w) k f fd ps (spD F n r)) (hl : ∀ ds S, r ds S ≠ .bad → ds.length = n) (hr : Room k X.A) (hg : Gl X x) (hm : X.mg x = some (.ref f))
    (hk : PySem.W.keepIn X.K (.ref f) = true) (hb : Binds X.K fd ps []) (tk : Takes X W) (ha : PA X (e :: es) (tA F W hi g)) (hdb : (x == ("__debug__" : Str)) = false) (hp : (e :: es).all plainA = true) :
    PE X (.Call (.Name x p) (e :: es) [] pos) (tE F W hi fun ρ S => (g ρ S).bind fun ds S => r ds S) := by
  have h' := Bool.and_eq_true_iff.mp (show (plainA e && es.all plainA) = true from hp)
  refine PE.imp (pe_callS Ff hr hg hm hk hb (fun σ => passAt tk σ) ha hdb (star_is h'.1) (star_any h'.2)) ?_
  intro σ H Q ⟨ρ, μ, S, e, rel, q⟩
  refine tA.goP e rel q fun ds μ1 S1 H1 vs x1 e1 r1 rds q1 => ?_
  have hb : r ds S1 ≠ .bad := fun z => by rw [z] at q1; exact q1
  refine ⟨by rw [rds.length]; exact hl _ _ hb, μ1, S1, ds, r1, rds, ?_⟩
  cases hr : r ds S1 with
  | ok d S' => rw [hr] at q1; exact fun μ' H' v x rel' rv => q1 μ' H' x rel' v rv
  | ex x S' => rw [hr] at q1; exact q1
  | bad => exact hb hr

/-! ### attributes -/
theorem lookF_mem : ∀ {fs : List Nat} {ds : List D} {f : Nat} {d : D}, lookF fs ds f = some d → f ∈ fs
  | [], _, _, _, h => by unfold lookF at h; cases h
  | g :: fs, [], _, _, h => by unfold lookF at h; cases h
  | g :: fs, e :: ds, f, d, h => by
    unfold lookF at h
    split at h
    · rename_i e; exact e ▸ List.mem_cons_self
    · exact List.mem_cons_of_mem _ (lookF_mem h)
theorem lookF_rep {μ : Mu} {H : Hp} : ∀ {fs : List Nat} {ds : List D} {vs : List V} {f : Nat} {d : D}, RepL F μ H ds vs → (∀ f ∈ fs, f < F.an.length) → f < F.an.length → lookF fs ds f = some d →
    ∃ v, ((fs.map F.nm).zip vs).lookup (F.nm f) = some v ∧ Rep F μ H d v
  | [], _, _, _, _, _, _, _, h => by unfold lookF at h; cases h
  | g :: fs, [], _, _, _, _, _, _, h => by unfold lookF at h; cases h
  | g :: fs, e :: ds, vs, f, d, r, hb, hf, h => by
    obtain ⟨v, vr, rfl, r1, r2⟩ := r
    unfold lookF at h
    show ∃ v', List.lookup (F.nm f) ((F.nm g, v) :: (fs.map F.nm).zip vr) = some v' ∧ _
    split at h
    · rename_i e
      cases h
      subst e
      exact ⟨v, by rw [List.lookup_cons, beq_self_eq_true], r1⟩
    · rename_i ne
      have hne : F.nm f ≠ F.nm g := fun z => ne (Fx.inj hf (hb g List.mem_cons_self) z).symm
      obtain ⟨w, e1, e2⟩ := lookF_rep r2 (fun f hf => hb f (List.mem_cons_of_mem _ hf)) hf h
      refine ⟨w, ?_, e2⟩
      rw [List.lookup_cons, beq_eq_false_iff_ne.mpr hne]; exact e1
theorem insOf_rep {μ : Mu} {H : Hp} {S : List O} {d : D} {v : V} {C : Nat} {fs : List Nat} {ds : List D} (rel : Rel F μ S H) (rd : Rep F μ H d v) (h : insOf S d = some (C, fs, ds)) :
    ∃ a dx vs, v = .ref a ∧ H a = some (.ins (F.ca C) dx ((fs.map F.nm).zip vs)) ∧ fs.length = ds.length ∧ (∀ f ∈ fs, f < F.an.length) ∧ RepL F μ H ds vs := by
  unfold insOf at h
  split at h
  · cases h
    obtain ⟨a, dx, vs, e, m, q, l, b, r⟩ := rd
    exact ⟨a, dx, vs, e, q, l, b, r⟩
  · rename_i n
    obtain ⟨a, rfl, hm⟩ := rd
    split at h
    · rename_i hn
      cases h
      obtain ⟨dx, vs, q, l, b, r⟩ := rel.obj n _ a hn hm
      exact ⟨a, dx, vs, rfl, q, l, b, r⟩
    · cases h
  · cases h
def plainB : Expr → Bool
  | .Call (.Name _ _) [] [] _ => false
  | _ => true
theorem plainB_is {o : Expr} {f : Str} {env : Env} {wh : Sem Value} (h : plainB o = true) : attributeBase o f env wh = wh := by
  unfold attributeBase
  split
  · exact (Bool.false_ne_true h).elim
  · rfl
theorem sE_attr {e : Expr} {f : Nat} {fn : Str} {g : Env' → List O → R D} {pos : Pos} (hk : F.K = X.K) (he : PE X e (tE F W hi g)) (hp : plainB e = true) (hf : F.nm f = fn)
    (hc : ∀ C, t.fld C f = true → Cls X.K (F.ca C) ∧ NoAttr X.K (F.ca C) (F.nm f) ∧ f < F.an.length) :
    PE X (.Attribute e fn pos) (tE F W hi fun ρ S => (g ρ S).bind fun x S => attrD t x f S) :=
  PE.imp (pe_fld he (plainB_is hp)) fun σ H Q ⟨ρ, μ, S, e, rel, q⟩ => tE.goP e rel q fun d μ1 S1 H1 v x1 e1 r1 rd q1 => by
    have q2 : Sat F μ1 H1 (attrD t d f S1) σ W (PD F Q) := q1
    unfold attrD at q2
    split at q2
    · rename_i C fs ds hi
      obtain ⟨a, dx, vs, rfl, hq, l, b, r⟩ := insOf_rep r1 rd hi
      split at q2
      · rename_i d' hl
        split at q2
        · rename_i hfl
          obtain ⟨c1, c2, c3⟩ := hc C hfl
          obtain ⟨w, w1, w2⟩ := lookF_rep r b c3 hl
          subst hf
          exact ⟨a, _, dx, _, w, rfl, hq, c1, c2, w1, q2.here r1 w w2⟩
        · exact q2.elim
      · exact q2.elim
    · exact q2.elim

/-! ### isinstance -/
structure ClsF (K : PySem.W.Frag) (C : Addr) : Prop where
  cls : Cls K C
  ha : PySem.W.findIn K (.ref C) "__class__" = some (some (.builtin "object.__class__"))
  hn : PySem.W.specialIn K (.builtin "object.__class__") "__get__" = some (some (.builtin "getset_descriptor.__get__"))
  htk : PySem.W.takesIn K (.builtin "object.__class__") = some true
  hm : PySem.W.mroIn K C (.type "object") = some true
def tnV (F : Fx) : TN → Value
  | .non => .type "NoneType"
  | .bl => .type "bool"
  | .int => .type "int"
  | .str => .type "str"
  | .tup => .type "tuple"
  | .lst => .type "list"
  | .dct => .type "dict"
  | .ins C => .ref (F.ca C)
theorem tyN_rep {μ : Mu} {H : Hp} {S : List O} {d : D} {v : V} {n : TN} (hk : F.K = X.K) (hc : ∀ C, n = .ins C → ClsF X.K (F.ca C)) (rel : Rel F μ S H) (rd : Rep F μ H d v) (h : tyN S d = some n) : TyX X.K H v (tnV F n) := by
  have ins : ∀ {a C dx fs}, n = .ins C → H a = some (.ins (F.ca C) dx fs) → TyX X.K H (.ref a) (tnV F n) := fun {a C dx fs} e q => by
    subst e
    have c := hc C rfl
    exact .base (.ins q c.cls c.ha c.hn c.htk c.hm)
  cases d with
  | non => cases h; cases (show _ = _ from rd); exact .base .non
  | bl b => cases h; cases (show _ = _ from rd); exact .base (.bl _)
  | int i => cases h; cases (show _ = _ from rd); exact .base (.int _)
  | str cs => cases h; cases (show _ = _ from rd); exact .base (.str _)
  | tup ds => cases h; obtain ⟨a, vs, rfl, q, r⟩ := rd; exact .base (.tup q.2)
  | lst ds => cases h; obtain ⟨a, vs, rfl, q, r⟩ := rd; exact .base (.lst q.2)
  | ft ds =>
    cases h
    obtain ⟨a, vs, rfl, ⟨_, q | ⟨o, q⟩⟩ | ⟨o, its, m, q, c, _⟩, r⟩ := rd
    · exact .base (.tup q)
    · exact .fTuple q
    · exact .kTuple (hk ▸ q) c
  | fl ds =>
    cases h
    obtain ⟨a, vs, rfl, ⟨_, q | ⟨o, q⟩⟩ | ⟨o, its, m, q, c, _⟩, r⟩ := rd
    · exact .base (.lst q)
    · exact .base (.frz q)
    · exact .kList (hk ▸ q) c
  | dk ks ds => cases h; obtain ⟨a, vs, rfl, _, q, _⟩ := rd; exact .base (.dK q)
  | dt ks ds => cases h; obtain ⟨a, vs, rfl, _, q, _⟩ := rd; exact .base (.dT q)
  | ins C fs ds => cases h; obtain ⟨a, dx, vs, rfl, _, q, _⟩ := rd; exact ins rfl q
  | cls x => cases h
  | ref m =>
    obtain ⟨a, rfl, hm⟩ := rd
    unfold tyN at h
    dsimp only at h
    split at h
    · rename_i hn; cases h; obtain ⟨vs, q, _⟩ := rel.obj m _ a hn hm; exact .base (.lst q)
    · rename_i hn; cases h; obtain ⟨vs, q, _⟩ := rel.obj m _ a hn hm; exact .base (.dK q)
    · rename_i hn; cases h; obtain ⟨vs, q, _⟩ := rel.obj m _ a hn hm; exact .base (.dT q)
    · rename_i hn; cases h; obtain ⟨dx, vs, q, _⟩ := rel.obj m _ a hn hm; exact ins rfl q
    · cases h
/-- an expression that names the class T -/
structure ClsE (X : Cx) (F : Fx) (t : Ct) (ce : Expr) (T : TyC) (cv : V) (u : Value) : Prop where
  pe : PE X ce (tC cv)
  cv : ClsV cv u
  kit : ∀ n b, kitD t n T = some b → PySem.W.kitOne X.K (tnV F n) u = some b
  pl : plainA ce = true
/-- .. one after another -/
inductive ClsEs (X : Cx) (F : Fx) (t : Ct) : List Expr → List TyC → List V → List Value → Prop
  | nil : ClsEs X F t [] [] [] []
  | cons {ce : Expr} {T : TyC} {cv : V} {u : Value} {ces : List Expr} {Ts : List TyC} {cvs : List V} {us : List Value} (h : ClsE X F t ce T cv u) (r : ClsEs X F t ces Ts cvs us) : ClsEs X F t (ce :: ces) (T :: Ts) (cv :: cvs) (u :: us)
theorem kitD_icl {n : TN} {T : TyC} {b : Bool} (h : kitD t n T = some b) {C : Nat} (e : n = .ins C) : t.icl C = true := by
  subst e
  cases T <;> simp only [kitD] at h <;> first | (cases h; done) | (split at h <;> first | (rename_i z; first | exact z.1 | exact z) | cases h)
def tConst (vs : List V) : TA := fun _ H Q => Q vs H
theorem ClsEs.pa : ∀ {ces : List Expr} {Ts : List TyC} {cvs : List V} {us : List Value}, ClsEs X F t ces Ts cvs us → PA X ces (tConst cvs)
  | _, _, _, _, .nil => pa_nil
  | _, _, _, _, .cons h r => PA.imp (pa_cons h.pe (ClsEs.pa r) (star_is h.pl)) fun _ _ _ q => q
theorem ClsEs.paired : ∀ {ces : List Expr} {Ts : List TyC} {cvs : List V} {us : List Value}, ClsEs X F t ces Ts cvs us → Paired ClsV cvs us
  | _, _, _, _, .nil => .nil
  | _, _, _, _, .cons h r => .cons h.cv (ClsEs.paired r)
theorem isiD_icl {d : D} {S S' : List O} {d' : D} : ∀ {Ts : List TyC}, Ts ≠ [] → isiD t d S Ts = .ok d' S' → ∃ n, tyN S d = some n ∧ ∀ C, n = .ins C → t.icl C = true
  | [], h, _ => (h rfl).elim
  | T :: Ts, _, h => by
    unfold isiD isi1 at h
    cases hn : tyN S d with
    | none => rw [hn] at h; exact nomatch h
    | some n =>
      rw [hn] at h
      refine ⟨n, rfl, fun C e => ?_⟩
      cases hk : kitD t n T with
      | none => rw [show (some n).bind (fun n => kitD t n T) = kitD t n T from rfl, hk] at h; exact nomatch h
      | some b => exact kitD_icl hk e
theorem ClsEs.kit {n : TN} {S S' : List O} {d d' : D} : ∀ {ces : List Expr} {Ts : List TyC} {cvs : List V} {us : List Value}, ClsEs X F t ces Ts cvs us → tyN S d = some n → isiD t d S Ts = .ok d' S' →
    ∃ b, S' = S ∧ d' = .bl b ∧ PySem.W.kitAny X.K (tnV F n) us = some b
  | _, _, _, _, .nil, _, h => by
    cases h
    exact ⟨false, rfl, rfl, kitAny_nil⟩
  | _, _, _, _, .cons (T := T) (Ts := Ts) hc r, hn, h => by
    unfold isiD isi1 at h
    rw [hn] at h
    have e : (some n).bind (fun n => kitD t n T) = kitD t n T := rfl
    rw [e] at h
    cases hk : kitD t n T with
    | none => rw [hk] at h; exact nomatch h
    | some b =>
      rw [hk] at h
      have h1 := hc.kit n b hk
      cases b with
      | true =>
        cases h
        exact ⟨true, rfl, rfl, kitAny_cons h1 (fun z => nomatch z) fun _ => rfl⟩
      | false =>
        obtain ⟨b', e1, e2, e3⟩ := ClsEs.kit r hn h
        exact ⟨b', e1, e2, kitAny_cons h1 (fun _ => e3) fun z => nomatch z⟩
theorem isiD_not_ex {d : D} {S S' : List O} {x : Exn} : ∀ {Ts : List TyC}, isiD t d S Ts ≠ .ex x S'
  | [], h => nomatch h
  | T :: Ts, h => by
    unfold isiD at h
    split at h
    · cases h
    · exact isiD_not_ex h
    · cases h
theorem sE_isiT {a : Expr} {ces : List Expr} {Ts : List TyC} {cvs : List V} {us : List Value} {f : Env' → List O → R D} {p pos p2 : Pos} {k : Nat} (hk : F.K = X.K) (hF : ∀ C, t.icl C = true → ClsF X.K (F.ca C)) (hg : Gl X "isinstance") (hm : X.mg "isinstance" = none)
    (ha : PE X a (tE F W hi f)) (hc : ClsEs X F t ces Ts cvs us) (hpa : plainA a = true) (hne : Ts ≠ []) (hz : cvs.length ≤ sizeLine) :
    PE X (.Call (.Name "isinstance" p) [a, .Tuple ces k p2] [] pos) (tE F W hi fun ρ S => (f ρ S).bind fun x S => isiD t x S Ts) := by
  have h2 : PA X [a, .Tuple ces k p2] (tCons (tE F W hi f) (tCons (tTup (tConst cvs)) tNil)) := pa_cons ha (pa_cons (pe_tup hc.pa) pa_nil) (star_is hpa)
  refine PE.imp (pe_callB call_isiT hg hm (by rfl) h2 (by decide) (by decide) (star_is hpa)) ?_
  intro σ H Q ⟨ρ, μ, S, e, rel, q⟩
  refine tE.goP e rel q fun d μ1 S1 H1 v x1 e1 r1 rd q1 => ⟨hz, fun tp hn => ?_⟩
  have q2 : Sat F μ1 H1 (isiD t d S1 Ts) σ W (PD F Q) := q1
  cases hr : isiD t d S1 Ts with
  | ok d' S' =>
    rw [hr] at q2
    obtain ⟨n, hn1, hn2⟩ := isiD_icl hne hr
    obtain ⟨b, rfl, rfl, h3⟩ := hc.kit hn1 hr
    exact ⟨v, tp, cvs, _, us, b, rfl, upd_same, hc.paired, tyN_rep hk (fun C e => hF C (hn2 C e)) (r1.laid hn) (rd.mono (Ext.laid hn)) hn1, h3, q2 _ _ (Ext.laid hn) (r1.laid hn) _ rfl⟩
  | ex x S' => exact (isiD_not_ex hr).elim
  | bad => rw [hr] at q2; exact q2.elim
theorem sE_isi {a ce : Expr} {T : TyC} {cv : V} {u : Value} {f : Env' → List O → R D} {p pos : Pos} (hk : F.K = X.K) (hF : ∀ C, t.icl C = true → ClsF X.K (F.ca C)) (hg : Gl X "isinstance") (hm : X.mg "isinstance" = none)
    (ha : PE X a (tE F W hi f)) (hc : ClsE X F t ce T cv u) (hpa : plainA a = true) :
    PE X (.Call (.Name "isinstance" p) [a, ce] [] pos) (tE F W hi fun ρ S => (f ρ S).bind fun x S => isiD t x S [T]) := by
  have h2 : PA X [a, ce] (tCons (tE F W hi f) (tCons (tC cv) tNil)) := pa_cons ha (pa_cons hc.pe pa_nil (star_is hc.pl)) (star_is hpa)
  refine PE.imp (pe_callB call_isi hg hm (by rfl) h2 (by decide) (by decide) (star_is hpa) (star_any (by show (plainA ce && true) = true; rw [hc.pl]; rfl))) ?_
  intro σ H Q ⟨ρ, μ, S, e, rel, q⟩
  refine tE.goP e rel q fun d μ1 S1 H1 v x1 e1 r1 rd q1 => ?_
  have q2 : Sat F μ1 H1 (isiD t d S1 [T]) σ W (PD F Q) := q1
  cases hr : isiD t d S1 [T] with
  | ok d' S' =>
    rw [hr] at q2
    obtain ⟨n, hn1, hn2⟩ := isiD_icl (by simp) hr
    unfold isiD isi1 at hr
    rw [hn1] at hr
    have e : (some n).bind (fun n => kitD t n T) = kitD t n T := rfl
    rw [e] at hr
    cases hkk : kitD t n T with
    | none => rw [hkk] at hr; exact nomatch hr
    | some b =>
      rw [hkk] at hr
      have h1 := hc.kit n b hkk
      have ty := tyN_rep hk (fun C e => hF C (hn2 C e)) r1 rd hn1
      cases b with
      | true => cases hr; exact ⟨v, cv, _, u, true, rfl, hc.cv, ty, h1, q2.here r1 _ rfl⟩
      | false => cases hr; exact ⟨v, cv, _, u, false, rfl, hc.cv, ty, h1, q2.here r1 _ rfl⟩
  | ex x S' => exact (isiD_not_ex hr).elim
  | bad => rw [hr] at q2; exact q2.elim
end
end Ev
end
section
set_option Elab.async false
set_option linter.all false
set_option maxRecDepth 100000
set_option maxHeartbeats 4000000
set_option autoImplicit false
/-! Ev, part G2: own classes: C(..), o.m(..). -/
namespace Ev
open PySem PySem.Spec PyProof.Rows L2
section
variable {X : Cx} {CX : CXT} {k : Nat} {f C : Addr} {fd : FuncData} {ps : List Str} {sp : Sp} {E : L2.St → XK} {x m : Str} {p pos apos : Pos} {e o : Expr} {es : List Expr} {ta : TE} {t : TA}
theorem run_makeS {pins : List (Addr × Obj)} {σ : L2.St} {H : Hp} {s : Shared} {Q : VK} {us : List Value} {vs : List V} (M : Mk X.K C f) (F : FnOk X.prog X.w X.K X.mg X.base CX k f fd ps sp) (hr : Room (k + 1) X.A) (hb : Binds X.K fd ps [])
    (hx : PassesAt CX X σ (E σ)) (I : Inv X pins σ H s) (r : Vals vs us)
    (h : ∀ x dx, H x = none → H dx = none → dx ≠ x → sp (.ref x :: vs) (upd (upd H dx (.own x)) x (.ins C dx [])) (fun v H2 => v = .non ∧ Q (.ref x) H2) (E σ)) :
    wpAny (model X.prog X.w) X.A (call (.ref C) us) (EP X pins σ Q) X.xe s := by
  have hq := h (s.heap.objs.size + 1) s.heap.objs.size (I.hok.fresh (Nat.le_succ _)) (I.hok.fresh (Nat.le_refl _)) (Nat.ne_of_lt (Nat.lt_succ_self _))
  have I2 := Inv.made (C := C) I
  have r2 : Vals (V.ref (s.heap.objs.size + 1) :: vs) (Value.ref (s.heap.objs.size + 1) :: us) := .cons rfl r
  have hl : (Value.ref (s.heap.objs.size + 1) :: us).length = ps.length := by
    rw [← r2.length]; exact F.len _ _ _ _ hq
  have b := hb _ (Value.ref (s.heap.objs.size + 1) :: us) I2.kIn (by rw [List.append_nil]; exact hl)
  rw [List.append_nil] at b
  refine wpAny_call (make_map (f := f) I.kIn M.makes M.init (beq_iff_eq.mp M.fn) (codeAny_mono (F.run _ X.stack _ _ ⟨Value.ref (s.heap.objs.size + 1) :: us, []⟩ (Value.ref (s.heap.objs.size + 1) :: us) _ _ (E σ) (hr.make C us [])
    (I2.env0.make C us []) b r2 hq) fun r s' hq' => ?_))
  cases r with
  | error e => exact hx pins _ _ e s' I2 hq'
  | ok fl =>
    cases fl with
    | ret u =>
      obtain ⟨v, H', I3, rv, ev, q3⟩ := I2.after hq'
      subst ev
      exact ⟨rv, ⟨V.ref (s.heap.objs.size + 1), H', I3, rfl, q3⟩⟩
    | next => exact False.elim hq'
    | brk => exact False.elim hq'
    | cont => exact False.elim hq'
def tMakeS (C : Addr) (sp : Sp) (E : L2.St → XK) (t : TA) : TE := fun σ H Q => t σ H fun vs H1 => ∀ x dx, H1 x = none → H1 dx = none → dx ≠ x →
  sp (.ref x :: vs) (upd (upd H1 dx (.own x)) x (.ins C dx [])) (fun v H2 => v = .non ∧ Q (.ref x) H2) (E σ)
theorem pe_makeS (M : Mk X.K C f) (F : FnOk X.prog X.w X.K X.mg X.base CX k f fd ps sp) (hr : Room (k + 1) X.A) (hg : Gl X x) (hm : X.mg x = some (.ref C)) (hb : Binds X.K fd ps []) (hx : ∀ σ, PassesAt CX X σ (E σ))
    (ha : PA X (e :: es) t) (hdb : (x == ("__debug__" : Str)) = false) (he : starEach (e :: es) X.env = (false, eval e X.env) :: starEach es X.env) (hpl : (backTo pos (starEach es X.env)).any (·.1) = false) :
    PE X (.Call (.Name x p) (e :: es) [] pos) (tMakeS C sp E t) := by
  refine ⟨fun pins s σ H Q I h => ?_⟩
  refine wpAny_Call_Name_kw (ld_glob I hg hm ?_ hdb)
  refine PySem.W.callWith_K (h₀ := X.base) I.ok.mod.kin M.kp (thn (ha.run pos pins s σ H _ I h) fun us s1 ⟨vs, H1, I1, r, q⟩ => ⟨I1.kIn, ?_⟩) he hpl
  exact run_makeS M F hr hb (hx σ) I1 r q
/-- o.m(..), the class told by the value -/
def tMethS (X : Cx) (CX : CXT) (k : Nat) (m : Str) (E : L2.St → XK) (ta : TE) (t : TA) : TE := fun σ H Q => ta σ H fun x H1 => ∃ (a C dx f : Addr) (fs : List (Str × V)) (fd : FuncData) (ps : List Str) (sp : Sp), x = .ref a ∧ H1 a = some (.ins C dx fs) ∧ Cls X.K C ∧ Meth X.K C m f ∧ fs.lookup m = none ∧
  FnOk X.prog X.w X.K X.mg X.base CX k f fd ps sp ∧ Binds X.K fd ps [] ∧ t σ H1 fun vs H2 => sp (.ref a :: vs) H2 Q (E σ)
theorem pe_methS (hr : Room k X.A) (hx : ∀ σ, PassesAt CX X σ (E σ)) (he : PE X o ta) (ha : PA X (e :: es) t) (hbase : attributeBase o m X.env (eval o X.env) = eval o X.env)
    (hfew : ((backTo pos (starEach (e :: es) X.env)).all (fun x => !x.1) && (backToKw pos (keywordEach [] X.env)).all (fun x => x.1.isSome) && decide ((e :: es).length + ([] : List Keyword).length + (if ([] : List Keyword).isEmpty then 0 else 1) < 30)) = true)
    (hline : (apos.endLine == pos.line) = true) (hst : starEach (e :: es) X.env = (false, eval e X.env) :: starEach es X.env) (hpl : (backTo pos (starEach es X.env)).any (·.1) = false) :
    PE X (.Call (.Attribute o m apos) (e :: es) [] pos) (tMethS X CX k m E ta t) := by
  refine ⟨fun pins s σ H Q I h => ?_⟩
  rw [arm_eval_Call, hbase]
  refine wpAny_bind (thn (he.run pins s σ H _ I h) fun u s1 ⟨x, H1, I1, rx, a, C, dx, f, fs, fd, ps, sp, ex, ea, c, hm, l, F, hb, q⟩ => ?_)
  subst ex
  obtain rfl : u = Value.ref a := rx
  refine wpAny_bind (wpAny_standAt ?_)
  have hform : methodCallForm ((e :: es).length + ([] : List Keyword).length) (backTo pos (starEach (e :: es) X.env)) (backToKw pos (keywordEach [] X.env)) = true := hfew
  have hpos : methodCallPos true o X.env apos pos = pure pos := by unfold methodCallPos; simp [hline]
  unfold methodCall
  rw [hform]
  refine wpAny_bind (wpAny_holding (getmeth_ok I1 ea c hm l ?_))
  refine wpAny_bind (wpAny_of_eq hpos ?_)
  refine PySem.W.callWith_K (first := [.ref a]) (h₀ := X.base) I.ok.mod.kin hm.kp (thn (ha.run pos pins s1 σ H1 _ I1 q) fun us s2 ⟨vs, H2, I2, r, q2⟩ => ⟨I2.kIn, ?_⟩) hst hpl
  exact run_fnS (us := .ref a :: us) (vs := .ref a :: vs) F hr hb (hx σ) I2 (.cons rfl r) q2
theorem pe_methS0 (hr : Room k X.A) (hx : ∀ σ, PassesAt CX X σ (E σ)) (he : PE X o ta) (hbase : attributeBase o m X.env (eval o X.env) = eval o X.env)
    (hline : (apos.endLine == pos.line) = true) :
    PE X (.Call (.Attribute o m apos) [] [] pos) (tMethS X CX k m E ta tNil) := by
  refine ⟨fun pins s σ H Q I h => ?_⟩
  rw [arm_eval_Call, hbase]
  refine wpAny_bind (thn (he.run pins s σ H _ I h) fun u s1 ⟨x, H1, I1, rx, a, C, dx, f, fs, fd, ps, sp, ex, ea, c, hm, l, F, hb, q⟩ => ?_)
  subst ex
  obtain rfl : u = Value.ref a := rx
  refine wpAny_bind (wpAny_standAt ?_)
  have hform : methodCallForm (([] : List Expr).length + ([] : List Keyword).length) (backTo pos (starEach [] X.env)) (backToKw pos (keywordEach [] X.env)) = true := rfl
  have hpos : methodCallPos true o X.env apos pos = pure pos := by unfold methodCallPos; simp [hline]
  unfold methodCall
  rw [hform]
  refine wpAny_bind (wpAny_holding (getmeth_ok I1 ea c hm l ?_))
  refine wpAny_bind (wpAny_of_eq hpos ?_)
  exact PySem.W.callWith_K0 (first := [.ref a]) I1.kIn hm.kp (run_fnS (us := [.ref a]) (vs := [.ref a]) F hr hb (hx σ) I1 (.cons rfl .nil) q)
end
section
variable {X : Cx} {F : Fx} {W : WX} {hi : Option Hi} {t : Ct}
theorem sE_make {x : Str} {c : Nat} {f : Addr} {fd : FuncData} {ps : List Str} {n k : Nat} {r : List D → List O → R D} {p pos : Pos} {e : Expr} {es : List Expr} {g : Env' → List O → R (List D)}
    (M : Mk X.K (F.ca c) f) (Ff : FnOk X.prog X.w X.K X.mg X.base (L2.CX X.prog X.w) k f fd ps (spD F n r)) (hl : ∀ ds S, r ds S ≠ .bad → ds.length = n) (hr : Room (k + 1) X.A) (hg : Gl X x) (hm : X.mg x = some (.ref (F.ca c)))
    (hb : Binds X.K fd ps []) (tk : Takes X W) (ha : PA X (e :: es) (tA F W hi g)) (hdb : (x == ("__debug__" : Str)) = false) (hp : (e :: es).all plainA = true) :
    PE X (.Call (.Name x p) (e :: es) [] pos) (tE F W hi fun ρ S => (g ρ S).bind fun ds S => (r (.ref S.length :: ds) (S ++ [.ins c [] []])).bind (mkEnd S.length)) := by
  have h' := Bool.and_eq_true_iff.mp (show (plainA e && es.all plainA) = true from hp)
  refine PE.imp (pe_makeS M Ff hr hg hm hb (fun σ => passAt tk σ) ha hdb (star_is h'.1) (star_any h'.2)) ?_
  intro σ H Q ⟨ρ, μ, S, e, rel, q⟩
  refine tA.goP e rel q fun ds μ1 S1 H1 vs x1 e1 r1 rds q1 => ?_
  intro x dx hx hdx hne
  have hx' : upd H1 dx (.own x) x = none := by rw [upd_ne (Ne.symm hne)]; exact hx
  have ex : Ext μ1 H1 (μ1 ++ [x]) (upd (upd H1 dx (.own x)) x (.ins (F.ca c) dx [])) := (Ext.laid hdx).trans (Ext.push hx')
  have rel2 : Rel F (μ1 ++ [x]) (S1 ++ [.ins c [] []]) (upd (upd H1 dx (.own x)) x (.ins (F.ca c) dx [])) := (r1.laid hdx).push hx' ⟨dx, [], upd_same, rfl, by simp, rfl⟩
  have hnb : r (.ref S1.length :: ds) (S1 ++ [.ins c [] []]) ≠ .bad := fun z => by
    have q2 : Sat F μ1 H1 ((r (.ref S1.length :: ds) (S1 ++ [.ins c [] []])).bind _) σ W (PD F Q) := q1
    rw [z] at q2
    exact q2
  have hlen := hl _ _ hnb
  refine ⟨by rw [List.length_cons, rds.length, ← hlen]; rfl, μ1 ++ [x], S1 ++ [.ins c [] []], .ref S1.length :: ds, rel2, ⟨.ref x, vs, rfl, ⟨x, rfl, ?_⟩, rds.mono ex⟩, ?_⟩
  · rw [← r1.len]; simp
  · have q2 : Sat F μ1 H1 ((r (.ref S1.length :: ds) (S1 ++ [.ins c [] []])).bind (mkEnd S1.length)) σ W (PD F Q) := q1
    cases hr : r (.ref S1.length :: ds) (S1 ++ [.ins c [] []]) with
    | ok d S' =>
      rw [hr, R.bind_ok] at q2
      dsimp only
      intro μ' H' v x2 rel' rv
      cases d <;> first | exact q2.elim | skip
      refine ⟨rv, ?_⟩
      refine Sat.here (Sat.mono (ex.trans x2) q2) rel' _ ⟨x, rfl, x2.get ?_⟩
      rw [← r1.len]; simp
    | ex y S' =>
      rw [hr] at q2
      exact fun μ' H' cls dd x2 rel' z => q2 μ' H' cls dd (ex.trans x2) rel' z
    | bad => exact hnb hr
/-- what a method's call needs -/
def MthOk (X : Cx) (F : Fx) (t : Ct) (C : Orc) (k m : Nat) : Prop := ∀ c f, t.mth c m = some f → m < F.an.length ∧ ∃ (fa : Addr) (fd : FuncData) (ps : List Str) (n : Nat), Cls X.K (F.ca c) ∧ Meth X.K (F.ca c) (F.nm m) fa ∧ Binds X.K fd ps [] ∧
  FnOk X.prog X.w X.K X.mg X.base (L2.CX X.prog X.w) k fa fd ps (spD F n (C f)) ∧ ∀ ds S, C f ds S ≠ .bad → ds.length = n
theorem zip_none {F : Fx} {m : Nat} (hm : m < F.an.length) : ∀ {fs : List Nat} {vs : List V}, (∀ f ∈ fs, f < F.an.length) → fs.contains m = false → ((fs.map F.nm).zip vs).lookup (F.nm m) = none
  | [], _, _, _ => by simp
  | f :: fs, [], _, _ => by simp
  | f :: fs, v :: vs, hb, hc => by
    rw [List.map_cons, List.zip_cons_cons, List.lookup_cons]
    have hne : m ≠ f := fun z => by subst z; simp at hc
    have : (F.nm m == F.nm f) = false := by
      rw [beq_eq_false_iff_ne]
      exact fun z => hne (Fx.inj hm (hb f List.mem_cons_self) z)
    rw [this]
    exact zip_none hm (fun g hg => hb g (List.mem_cons_of_mem _ hg)) (by simp at hc ⊢; exact hc.2)
def omR (t : Ct) (C : Orc) (m : Nat) (f : Env' → List O → R D) (g : Env' → List O → R (List D)) (ρ : Env') (S : List O) : R D := (f ρ S).bind fun x S => (match insOf S x with
    | some (c, fs, vs) => (match t.mth c m with
      | some f => if fs.contains m = true then .bad else (g ρ S).bind fun ds S => C f (x :: ds) S
      | none => .bad)
    | none => .bad)
theorem om_imp {C : Orc} {k m : Nat} {nm : Str} {f : Env' → List O → R D} {g : Env' → List O → R (List D)} {tt : TA} (hnm : F.nm m = nm) (mo : MthOk X F t C k m) (htt : ∀ σ H Q, tA F W hi g σ H Q → tt σ H Q) : ∀ σ H Q, tE F W hi (omR t C m f g) σ H Q → tMethS X (L2.CX X.prog X.w) k nm (WE W) (tE F W hi f) tt σ H Q := by
  intro σ H Q ⟨ρ, μ, S, e, rel, q⟩
  refine tE.goP e rel q fun d μ1 S1 H1 v x1 e1 r1 rd q1 => ?_
  have q2 : Sat F μ1 H1 (match insOf S1 d with
    | some (c, fs, vs) => (match t.mth c m with
      | some f => if fs.contains m = true then R.bad else (g ρ S1).bind fun ds S => C f (d :: ds) S
      | none => .bad)
    | none => .bad) σ W (PD F Q) := q1
  split at q2
  · rename_i c fs ds hi
    obtain ⟨a, dx, vs, rfl, hq, l, b, r⟩ := insOf_rep r1 rd hi
    split at q2
    · rename_i fn hfn
      split at q2
      · exact q2.elim
      · rename_i hcon
        obtain ⟨hml, fa, fd, ps, n, c1, c2, c3, c4, c5⟩ := mo c fn hfn
        subst hnm
        refine ⟨a, F.ca c, dx, fa, _, fd, ps, _, rfl, hq, c1, c2, zip_none hml b (by simpa using hcon), c4, c3, htt _ _ _ (tA.goP e1 r1 q2 fun ds μ2 S2 H2 vs x2 e2 r2 rds q3 => ?_)⟩
        have hnb : C fn (d :: ds) S2 ≠ .bad := fun z => by rw [z] at q3; exact q3
        have hlen := c5 _ _ hnb
        refine ⟨by rw [List.length_cons, rds.length, ← hlen]; rfl, μ2, S2, d :: ds, r2, ⟨_, _, rfl, rd.mono x2, rds⟩, ?_⟩
        cases hr : C fn (d :: ds) S2 with
        | ok d S' => rw [hr] at q3; exact fun μ' H' v x rel' rv => q3 μ' H' x rel' v rv
        | ex x S' => rw [hr] at q3; exact q3
        | bad => exact hnb hr
    · exact q2.elim
  · exact q2.elim
theorem sE_omth {C : Orc} {k m : Nat} {nm : Str} {o e : Expr} {es : List Expr} {f : Env' → List O → R D} {g : Env' → List O → R (List D)} {apos cpos : Pos} (hnm : F.nm m = nm) (mo : MthOk X F t C k m) (hr : Room k X.A) (tk : Takes X W)
    (ho : PE X o (tE F W hi f)) (ha : PA X (e :: es) (tA F W hi g)) (hpo : plainB o = true) (hp : (e :: es).all plainA = true) (hfew : decide ((e :: es).length < 30) = true) (hline : (apos.endLine == cpos.line) = true) :
    PE X (.Call (.Attribute o nm apos) (e :: es) [] cpos) (tE F W hi (omR t C m f g)) := by
  have h' := Bool.and_eq_true_iff.mp (show (plainA e && es.all plainA) = true from hp)
  refine PE.imp (pe_methS hr (fun σ => passAt tk σ) ho ha (plainB_is hpo) ?_ hline (star_is h'.1) (star_any h'.2)) (om_imp hnm mo fun _ _ _ h => h)
  have hsa : ∀ {es : List Expr}, es.all plainA = true → (backTo cpos (starEach es X.env)).all (fun x => !x.1) = true := fun {es} => by
    induction es with
    | nil => intro _; rfl
    | cons e es ih =>
      intro h
      have h' := Bool.and_eq_true_iff.mp (show (plainA e && es.all plainA) = true from h)
      rw [star_is h'.1]
      show (!false && (backTo cpos (starEach es X.env)).all fun x => !x.1) = true
      rw [ih h'.2]; rfl
  rw [hsa hp]
  show (true && (true && decide _)) = true
  rw [Bool.true_and, Bool.true_and]
  exact hfew
theorem sE_omth0 {C : Orc} {k m : Nat} {nm : Str} {o : Expr} {f : Env' → List O → R D} {apos cpos : Pos} (hnm : F.nm m = nm) (mo : MthOk X F t C k m) (hr : Room k X.A) (tk : Takes X W)
    (ho : PE X o (tE F W hi f)) (hpo : plainB o = true) (hline : (apos.endLine == cpos.line) = true) :
    PE X (.Call (.Attribute o nm apos) [] [] cpos) (tE F W hi (omR t C m f fun _ S => .ok [] S)) :=
  PE.imp (pe_methS0 hr (fun σ => passAt tk σ) ho (plainB_is hpo) hline) (om_imp hnm mo fun σ H Q ⟨ρ, μ, S, e, rel, q⟩ => Sat.here q rel _ rfl)
end
end Ev
end
section
set_option Elab.async false
set_option linter.all false
set_option maxRecDepth 100000
set_option maxHeartbeats 4000000
set_option autoImplicit false
/-! Ev, part G3: own ==, list * int, list(range(..)). -/
namespace Ev
open PySem PySem.Spec PyProof.Rows L2
section
variable {X : Cx} {F : Fx} {W : WX} {hi : Option Hi} {t : Ct}
theorem P1.mkL {μ : Mu} {H : Hp} {S : List O} {Q : VK} {z : Bool} {ds : List D} {vs : List V} (p : P1 F μ H (mkL z ds S) Q) (rel : Rel F μ S H) (r : RepL F μ H ds vs) : ∀ a, H a = none → Q (.ref a) (upd H a (.lst vs)) := by
  intro a n
  unfold Ev.mkL at p
  split at p
  · exact p.new rel (fun a n => ⟨vs, upd_same, r.mono (Ext.push n)⟩) a n
  · exact p.lst rel r a n
/-! ### own == -/
/-- no class stands ahead of C's own == -/
def NotF (K : PySem.W.Frag) (F : Fx) (t : Ct) (C : Addr) : Prop := (∀ n ∈ ["NoneType", "bool", "int", "str", "tuple", "list", "dict"], PySem.W.notFirst K C (.type n) = true) ∧ ∀ d, t.icl d = true → PySem.W.notFirst K C (.ref (F.ca d)) = true
theorem NotF.tn {K : PySem.W.Frag} {C : Addr} (h : NotF K F t C) : ∀ n : TN, tyOk t n = true → PySem.W.notFirst K C (tnV F n) = true
  | .non, _ => h.1 _ (by decide)
  | .bl, _ => h.1 _ (by decide)
  | .int, _ => h.1 _ (by decide)
  | .str, _ => h.1 _ (by decide)
  | .tup, _ => h.1 _ (by decide)
  | .lst, _ => h.1 _ (by decide)
  | .dct, _ => h.1 _ (by decide)
  | .ins d, q => h.2 d q
theorem op_oeq {C : Orc} {k m : Nat} (hk : F.K = X.K) (hu : X.A.units + 64 < cLine) (hnm : F.nm m = "__eq__") (mo : MthOk X F t C k m) (hr : Room k X.A) (tk : Takes X W) (hF : ∀ C, t.icl C = true → ClsF X.K (F.ca C)) (nf : ∀ c f, t.mth c m = some f → NotF X.K F t (F.ca c)) :
    OpR X (compareOp .Eq) (rP2 F (oeqD t C m)) := by
  intro pins s σ H x y v u Q I rx ry ⟨μ, S, d, e, rel, hd, he, p⟩
  unfold oeqD at p
  split at p
  · rename_i c fs ds hi
    obtain ⟨a, dx, vs, rfl, hq, l, b, r⟩ := insOf_rep rel hd hi
    split at p
    · rename_i n hn
      split at p
      · rename_i hok
        split at p
        · rename_i f hf
          obtain ⟨hml, fa, fd, ps, n2, c1, c2, c3, c4, c5⟩ := mo c f hf
          cases hres : C f [d, e] S with
          | bad => rw [hres] at p; exact p.elim
          | ex x S' => rw [hres] at p; exact p.elim
          | ok w S' =>
            rw [hres] at p
            cases w <;> first | exact p.elim | skip
            rename_i bb
            cases (show v = Value.ref a from rx)
            obtain ⟨mA, J, _⟩ := ins_get I.hok hq
            obtain ⟨od, J, _⟩ := J.look
            obtain ⟨m', hFr⟩ := I.fr
            have ty := tyN_rep hk (fun C0 h0 => hF C0 (by subst h0; exact hok)) rel he hn
            obtain ⟨P, kx, hP, _⟩ := kit_of I ry ty
            have hs : PySem.W.findIn X.K (.ref (F.ca c)) (cmpInfo .Eq).2.1 = some (some (.ref fa)) := by
              have := c2.at_
              rw [hnm] at this
              exact this
            show wpAny (model X.prog X.w) X.A (richCompare .Eq (.ref a) u) (EP X pins σ Q) X.xe s
            refine PySem.W.cmp_K (op := .Eq) (tb := tnV F n) (by omega) hFr I.ok.mod.kin J (kx.ty _ _ I.kIn hP) ((nf c f hf).tn n hok) hs c2.fn ?_
            have hlen := c5 [d, e] S (by rw [hres]; exact fun z => nomatch z)
            refine wpAny_mono (run_fnS (us := [.ref a, u]) (vs := [.ref a, y]) (Q := fun w H' => w = .bl bb ∧ Q (.bl bb) H') (E := WE W) c4 hr c3 (passAt tk σ) I (.cons rfl (.cons ry .nil)) ?_) (fun w s' hw => ?_) fun _ _ z => z
            · refine ⟨by rw [← hlen]; rfl, μ, S, [d, e], rel, ⟨_, _, rfl, hd, _, _, rfl, he, rfl⟩, ?_⟩
              rw [hres]
              exact fun μ' H' v x rel' rv => ⟨rv, p μ' H' _ x rel' rfl⟩
            · obtain ⟨z, H', I', rz, ez, q⟩ := hw
              subst ez
              cases (show w = Value.bool bb from rz)
              exact ⟨.bl bb, H', I', rfl, q⟩
        · exact p.elim
      · exact p.elim
    · exact p.elim
  · refine op_eqS hk hu pins s σ H x y v u Q I rx ry ⟨μ, S, d, e, rel, hd, he, ?_⟩
    cases hc : eqDS false d e S with
    | bad => rw [show cmpD .Eq d e S = eqDS false d e S from rfl, hc] at p; exact p
    | ex x S' => rw [show cmpD .Eq d e S = eqDS false d e S from rfl, hc] at p; exact p.elim
    | ok w S' => rw [show cmpD .Eq d e S = eqDS false d e S from rfl, hc] at p; exact p
theorem oeq_bl {C : Orc} {m : Nat} {x y d : D} {S S' : List O} (h : oeqD t C m x y S = .ok d S') : ∃ b, d = .bl b := by
  unfold oeqD at h
  split at h
  · split at h
    · split at h
      · split at h
        · split at h
          · cases h; exact ⟨_, rfl⟩
          · exact nomatch h
        · exact nomatch h
      · exact nomatch h
    · exact nomatch h
  · exact cmpD_bl (prim_ok h)
theorem oeq_prim {C : Orc} {m : Nat} {x y : D} {S : List O} : (oeqD t C m x y S).prim = oeqD t C m x y S := by
  unfold oeqD
  split
  · split
    · split
      · split
        · split <;> rfl
        · rfl
      · rfl
    · rfl
  · cases cmpD .Eq x y S <;> rfl
theorem OkE.oeq {C : Orc} {k m : Nat} {a b : Expr} {f g : Env' → List O → R D} {pos : Pos} (hk : F.K = X.K) (hu : X.A.units + 64 < cLine) (hnm : F.nm m = "__eq__") (mo : MthOk X F t C k m) (hr : Room k X.A) (tk : Takes X W)
    (hF : ∀ C, t.icl C = true → ClsF X.K (F.ca C)) (nf : ∀ c f, t.mth c m = some f → NotF X.K F t (F.ca c)) (ha : OkE X F W hi a f) (hb : OkE X F W hi b g) (hm : behindInMarks .Eq b = false) :
    OkE X F W hi (.Compare a [.Eq] [b] pos) fun ρ S => (f ρ S).bind fun x S => (g ρ S).bind fun y S => oeqD t C m x y S := by
  have op := op_oeq (W := W) hk hu hnm mo hr tk hF nf
  have e : (fun ρ S => (f ρ S).bind fun x S => (g ρ S).bind fun y S => oeqD t C m x y S) = fun ρ S => (f ρ S).bind fun x S => (g ρ S).bind fun y S => (oeqD t C m x y S).prim := by
    funext ρ S
    simp only [oeq_prim]
  have h1 : PE X (.Compare a [.Eq] [b] pos) (tE F W hi fun ρ S => (f ρ S).bind fun x S => (g ρ S).bind fun y S => (oeqD t C m x y S).prim) := sE_op2 (pe_cmpR (pos := pos) op ha.pe hb.pe hm)
  rw [e]
  refine ⟨h1, fun _ => pt_bl (fun {_} => h1) (PT.imp (pt_cmpR op ha.pe hb.pe hm) ?_) ?_, fun ⟨_, _, _, z⟩ => nomatch z⟩
  · intro σ H Q ⟨ρ, μ, S, e, rel, q⟩
    refine tE.goP e rel q fun d μ1 S1 H1 v x1 e1 r1 rd q1 => tE.goP e1 r1 q1 fun d2 μ2 S2 H2 v2 x2 e2 r2 rd2 q2 =>
      ⟨μ2, S2, d, d2, r2, rd.mono x2, rd2, ?_⟩
    exact Sat.p1 (σ := σ) (W := W) q2
  · intro ρ S d S' h
    obtain ⟨x, S1, _, h⟩ := bind_ok h
    obtain ⟨y, S2, _, h⟩ := bind_ok h
    exact oeq_bl (prim_ok h)
/-! ### list * int -/
theorem RepL.repl {μ : Mu} {H : Hp} {ds : List D} {vs : List V} (r : RepL F μ H ds vs) : ∀ k : Nat, RepL F μ H (repL k ds) ((List.replicate k vs).flatten)
  | 0 => rfl
  | k + 1 => by
    unfold repL
    rw [List.replicate_succ, List.flatten_cons, List.replicate_succ, List.flatten_cons]
    exact r.append (RepL.repl r k)
theorem op_mulL (z : Bool) : OpR X (binaryOp .Mult) (rP2 F (mulLD z)) :=
  OpR.imp op_rep fun x y H Q ⟨μ, S, d, e, rel, hd, he, p⟩ => by
    unfold mulLD at p
    split at p
    · rename_i k
      split at p
      · rename_i ds hds
        split at p
        · rename_i hc
          obtain ⟨a, vs, rfl, q, r⟩ := listOf_rep rel hd hds
          obtain ⟨h1, h2, h3⟩ := hc
          refine ⟨a, k, vs, rfl, rep_int he, q, by omega, by omega, ?_, p.mkL rel (r.repl k.toNat)⟩
          rw [r.length, sizeLine_eq]
          have h4 : k.toNat ≤ 100000 := by omega
          exact Nat.le_trans (Nat.mul_le_mul h3 h4) (by decide)
        · exact p.elim
      · exact p.elim
    · exact p.elim
/-! ### list(range(..)) -/
theorem rep_rg {μ : Mu} {H : Hp} : ∀ (n : Nat) (lo : Int), RepL F μ H (rngL lo n) ((List.range n).map fun i => V.int (lo + (i : Nat)))
  | 0, _ => rfl
  | n + 1, lo => by
    rw [List.range_succ_eq_map, List.map_cons, List.map_map]
    refine ⟨_, _, rfl, ?_, ?_⟩
    · show V.int (lo + ((0 : Nat) : Int)) = V.int lo
      simp
    · have := rep_rg n (lo + 1) (μ := μ) (H := H)
      have e : ((List.range n).map fun i => V.int (lo + 1 + (i : Nat))) = (List.range n).map ((fun i => V.int (lo + (i : Nat))) ∘ Nat.succ) := by
        refine List.map_congr_left fun i _ => ?_
        show V.int _ = V.int _
        congr 1
        simp [Int.add_assoc, Int.add_comm 1]
      rw [e] at this
      exact this
theorem lr_list {k : Nat} {μ : Mu} {H : Hp} {S : List O} {i j : Int} {Q : VK} (hk2 : k ≠ 2) (rel : Rel F μ S H) (p : P1 F μ H (lrD k (.int i) (.int j) S) Q) : RgOk i j ∧ ∀ q, H q = none → Q (.ref q) (upd H q (.lst (rgV i j))) := by
  unfold lrD at p
  dsimp only at p
  by_cases hc : inR i ∧ inR j ∧ (j - i).toNat ≤ 16777216
  · rw [if_pos hc, if_neg hk2] at p
    obtain ⟨h1, h2, h3⟩ := hc
    exact ⟨⟨(inR_b h1).1, (inR_b h1).2, (inR_b h2).1, (inR_b h2).2, h3⟩, p.mkL rel (rep_rg _ _)⟩
  · rw [if_neg hc] at p
    exact p.elim
theorem lr_tup {μ : Mu} {H : Hp} {S : List O} {i j : Int} {Q : VK} (rel : Rel F μ S H) (p : P1 F μ H (lrD 2 (.int i) (.int j) S) Q) : RgOk i j ∧ ∀ q, H q = none → Q (.ref q) (upd H q (.tup (rgV i j))) := by
  unfold lrD at p
  dsimp only at p
  by_cases hc : inR i ∧ inR j ∧ (j - i).toNat ≤ 16777216
  · rw [if_pos hc, if_pos rfl] at p
    obtain ⟨h1, h2, h3⟩ := hc
    exact ⟨⟨(inR_b h1).1, (inR_b h1).2, (inR_b h2).1, (inR_b h2).2, h3⟩, p.tup rel (rep_rg _ _)⟩
  · rw [if_neg hc] at p
    exact p.elim
theorem lr_int {k : Nat} {x y : D} {μ : Mu} {H : Hp} {S : List O} {Q : VK} (p : P1 F μ H (lrD k x y S) Q) : ∃ i j, x = .int i ∧ y = .int j := by
  unfold lrD at p
  split at p
  · exact ⟨_, _, rfl, rfl⟩
  · exact p.elim
theorem sE_lrng {k : Nat} {a : Expr} {f : Env' → List O → R D} {x : Str} {p p2 pos pos2 : Pos} (hc : X.calm = true) (hx : x = if k = 2 then "tuple" else "list") (hg : Gl X x) (hm : X.mg x = none) (hg2 : Gl X "range") (hm2 : X.mg "range" = none)
    (ha : PE X a (tE F W hi f)) (hp : plainA a = true) : PE X (.Call (.Name x p) [.Call (.Name "range" p2) [a] [] pos2] [] pos) (tE F W hi fun ρ S => (f ρ S).bind fun x S => (lrD k (.int 0) x S).prim) := by
  have rg := prg_1 (p := p2) (pos := pos2) hg2 hm2 ha (star_is hp)
  have hpc : plainA (.Call (.Name "range" p2) [a] [] pos2) = true := rfl
  by_cases hk2 : k = 2
  · subst hk2
    rw [if_pos rfl] at hx
    subst hx
    refine PE.imp (pe_tupRg hc hg hm rg (star_is hpc)) ?_
    intro σ H Q ⟨ρ, μ, S, e, rel, q⟩
    refine tE.goP e rel q fun d μ1 S1 H1 v x1 e1 r1 rd q1 => ?_
    have q2 := Sat.p1 (σ := σ) (W := W) q1
    obtain ⟨i, j, hi, hj⟩ := lr_int q2
    cases hi
    subst hj
    exact ⟨j, rep_int rd, lr_tup r1 q2⟩
  · rw [if_neg hk2] at hx
    subst hx
    refine PE.imp (pe_listRg hc hg hm rg (star_is hpc)) ?_
    intro σ H Q ⟨ρ, μ, S, e, rel, q⟩
    refine tE.goP e rel q fun d μ1 S1 H1 v x1 e1 r1 rd q1 => ?_
    have q2 := Sat.p1 (σ := σ) (W := W) q1
    obtain ⟨i, j, hi, hj⟩ := lr_int q2
    cases hi
    subst hj
    exact ⟨j, rep_int rd, lr_list hk2 r1 q2⟩
theorem sE_lrng2 {k : Nat} {a b : Expr} {f g : Env' → List O → R D} {x : Str} {p p2 pos pos2 : Pos} (hc : X.calm = true) (hx : x = if k = 2 then "tuple" else "list") (hg : Gl X x) (hm : X.mg x = none) (hg2 : Gl X "range") (hm2 : X.mg "range" = none)
    (ha : PE X a (tE F W hi f)) (hb : PE X b (tE F W hi g)) (hp : plainA a = true) (hp2 : plainA b = true) : PE X (.Call (.Name x p) [.Call (.Name "range" p2) [a, b] [] pos2] [] pos) (tE F W hi fun ρ S => (f ρ S).bind fun x S => (g ρ S).bind fun y S => (lrD k x y S).prim) := by
  have rg := prg_2 (p := p2) (pos := pos2) hg2 hm2 ha hb (star_is hp) (star_is hp2) (star_any (es := [b]) (by show (plainA b && true) = true; rw [hp2]; rfl))
  have hpc : plainA (.Call (.Name "range" p2) [a, b] [] pos2) = true := rfl
  by_cases hk2 : k = 2
  · subst hk2
    rw [if_pos rfl] at hx
    subst hx
    refine PE.imp (pe_tupRg hc hg hm rg (star_is hpc)) ?_
    intro σ H Q ⟨ρ, μ, S, e, rel, q⟩
    refine tE.goP e rel q fun d μ1 S1 H1 v x1 e1 r1 rd q1 => tE.goP e1 r1 q1 fun d2 μ2 S2 H2 v2 x2 e2 r2 rd2 q2 => ?_
    have q2 := Sat.p1 (σ := σ) (W := W) q2
    obtain ⟨i, j, hi, hj⟩ := lr_int q2
    subst hi hj
    exact ⟨i, j, rep_int rd, rep_int rd2, lr_tup r2 q2⟩
  · rw [if_neg hk2] at hx
    subst hx
    refine PE.imp (pe_listRg hc hg hm rg (star_is hpc)) ?_
    intro σ H Q ⟨ρ, μ, S, e, rel, q⟩
    refine tE.goP e rel q fun d μ1 S1 H1 v x1 e1 r1 rd q1 => tE.goP e1 r1 q1 fun d2 μ2 S2 H2 v2 x2 e2 r2 rd2 q2 => ?_
    have q2 := Sat.p1 (σ := σ) (W := W) q2
    obtain ⟨i, j, hi, hj⟩ := lr_int q2
    subst hi hj
    exact ⟨i, j, rep_int rd, rep_int rd2, lr_list hk2 r2 q2⟩
end
end Ev
end
section
set_option Elab.async false
set_option linter.all false
set_option maxRecDepth 100000
set_option maxHeartbeats 4000000
set_option autoImplicit false
/-! Ev, part H: what was made is told by value. -/
namespace Ev
open PySem PySem.Spec PyProof.Rows L2

section
variable {F : Fx} {μ0 μ1 : Mu} {H : Hp}
theorem not_pre {t : Mu} {a : Addr} (e : μ1 = μ0 ++ t) (h : a ∉ μ1) : a ∉ μ0 := fun m => h (by rw [e]; exact List.mem_append_left _ m)
mutual
theorem cl_rep {t : Mu} (e : μ1 = μ0 ++ t) : ∀ (d : D) (v : V), clD μ0.length d = true → Rep F μ1 H d v → Rep F μ0 H d v
  | .non, _, _, h => h
  | .bl _, _, _, h => h
  | .int _, _, _, h => h
  | .str _, _, _, h => h
  | .cls _, _, _, h => h
  | .tup ds, v, c, h => by
    obtain ⟨a, vs, q, m, r⟩ := h
    exact ⟨a, vs, q, ⟨not_pre e m.1, m.2⟩, cl_repL e ds vs c r⟩
  | .lst ds, v, c, h => by
    obtain ⟨a, vs, q, m, r⟩ := h
    exact ⟨a, vs, q, ⟨not_pre e m.1, m.2⟩, cl_repL e ds vs c r⟩
  | .ft ds, v, c, h => by
    obtain ⟨a, vs, q, m, r⟩ := h
    exact ⟨a, vs, q, m.imp (fun z => ⟨not_pre e z.1, z.2⟩) id, cl_repL e ds vs c r⟩
  | .fl ds, v, c, h => by
    obtain ⟨a, vs, q, m, r⟩ := h
    exact ⟨a, vs, q, m.imp (fun z => ⟨not_pre e z.1, z.2⟩) id, cl_repL e ds vs c r⟩
  | .dk ks ds, v, c, h => by
    obtain ⟨a, vs, q, m, z, l, r⟩ := h
    exact ⟨a, vs, q, not_pre e m, z, l, cl_repL e ds vs c r⟩
  | .dt ks ds, v, c, h => by
    obtain ⟨a, vs, q, m, z, l, r⟩ := h
    exact ⟨a, vs, q, not_pre e m, z, l, cl_repL e ds vs c r⟩
  | .ins C fs ds, v, c, h => by
    obtain ⟨a, dx, vs, q, m, z, l, b, r⟩ := h
    exact ⟨a, dx, vs, q, not_pre e m, z, l, b, cl_repL e ds vs c r⟩
  | .ref n, v, c, h => by
    obtain ⟨a, q, z⟩ := h
    have hn : n < μ0.length := of_decide_eq_true c
    refine ⟨a, q, ?_⟩
    rw [e, List.getElem?_append_left hn] at z
    exact z
theorem cl_repL {t : Mu} (e : μ1 = μ0 ++ t) : ∀ (ds : List D) (vs : List V), clL μ0.length ds = true → RepL F μ1 H ds vs → RepL F μ0 H ds vs
  | [], _, _, h => h
  | d :: ds, vs, c, h => by
    have c' := Bool.and_eq_true_iff.mp (show (clD μ0.length d && clL μ0.length ds) = true from c)
    obtain ⟨v, r, q, h1, h2⟩ := h
    exact ⟨v, r, q, cl_rep e d v c'.1 h1, cl_repL e ds r c'.2 h2⟩
end
mutual
theorem rep_cl : ∀ (d : D) (v : V), Rep F μ0 H d v → clD μ0.length d = true
  | .non, _, _ => rfl
  | .bl _, _, _ => rfl
  | .int _, _, _ => rfl
  | .str _, _, _ => rfl
  | .cls _, _, _ => rfl
  | .tup ds, v, h => by obtain ⟨a, vs, q, m, r⟩ := h; exact rep_clL ds vs r
  | .lst ds, v, h => by obtain ⟨a, vs, q, m, r⟩ := h; exact rep_clL ds vs r
  | .ft ds, v, h => by obtain ⟨a, vs, q, m, r⟩ := h; exact rep_clL ds vs r
  | .fl ds, v, h => by obtain ⟨a, vs, q, m, r⟩ := h; exact rep_clL ds vs r
  | .dk ks ds, v, h => by obtain ⟨a, vs, q, m, z, l, r⟩ := h; exact rep_clL ds vs r
  | .dt ks ds, v, h => by obtain ⟨a, vs, q, m, z, l, r⟩ := h; exact rep_clL ds vs r
  | .ins C fs ds, v, h => by obtain ⟨a, dx, vs, q, m, z, l, b, r⟩ := h; exact rep_clL ds vs r
  | .ref n, v, h => by
    obtain ⟨a, q, z⟩ := h
    exact decide_eq_true (List.getElem?_eq_some_iff.mp z).1
theorem rep_clL : ∀ (ds : List D) (vs : List V), RepL F μ0 H ds vs → clL μ0.length ds = true
  | [], _, _ => rfl
  | d :: ds, vs, h => by
    obtain ⟨v, r, q, h1, h2⟩ := h
    show (clD μ0.length d && clL μ0.length ds) = true
    rw [rep_cl d v h1, rep_clL ds r h2]; rfl
end
mutual
theorem frz_rep {t : Mu} (e : μ1 = μ0 ++ t) {g : Nat → Option D} (hg : ∀ n d' a, g n = some d' → μ1[n]? = some a → Rep F μ0 H d' (.ref a)) :
    ∀ (d d' : D) (v : V), frzD g d = some d' → Rep F μ1 H d v → Rep F μ0 H d' v
  | .non, _, _, f, h => by cases f; exact h
  | .bl _, _, _, f, h => by cases f; exact h
  | .int _, _, _, f, h => by cases f; exact h
  | .str _, _, _, f, h => by cases f; exact h
  | .cls _, _, _, f, h => by cases f; exact h
  | .tup ds, d', v, f, h => by
    obtain ⟨ds', fl, rfl⟩ := Option.map_eq_some_iff.mp (show (frzL g ds).map D.tup = some d' from f)
    obtain ⟨a, vs, q, m, r⟩ := h
    exact ⟨a, vs, q, ⟨not_pre e m.1, m.2⟩, frz_repL e hg ds ds' vs fl r⟩
  | .lst ds, d', v, f, h => by
    obtain ⟨ds', fl, rfl⟩ := Option.map_eq_some_iff.mp (show (frzL g ds).map D.lst = some d' from f)
    obtain ⟨a, vs, q, m, r⟩ := h
    exact ⟨a, vs, q, ⟨not_pre e m.1, m.2⟩, frz_repL e hg ds ds' vs fl r⟩
  | .ft ds, d', v, f, h => by
    obtain ⟨ds', fl, rfl⟩ := Option.map_eq_some_iff.mp (show (frzL g ds).map D.ft = some d' from f)
    obtain ⟨a, vs, q, m, r⟩ := h
    exact ⟨a, vs, q, m.imp (fun z => ⟨not_pre e z.1, z.2⟩) id, frz_repL e hg ds ds' vs fl r⟩
  | .fl ds, d', v, f, h => by
    obtain ⟨ds', fl, rfl⟩ := Option.map_eq_some_iff.mp (show (frzL g ds).map D.fl = some d' from f)
    obtain ⟨a, vs, q, m, r⟩ := h
    exact ⟨a, vs, q, m.imp (fun z => ⟨not_pre e z.1, z.2⟩) id, frz_repL e hg ds ds' vs fl r⟩
  | .dk ks ds, d', v, f, h => by
    obtain ⟨ds', fl, rfl⟩ := Option.map_eq_some_iff.mp (show (frzL g ds).map (D.dk ks) = some d' from f)
    obtain ⟨a, vs, q, m, z, l, r⟩ := h
    exact ⟨a, vs, q, not_pre e m, z, l.trans (by rw [← r.length, ← (frz_repL e hg ds ds' vs fl r).length]), frz_repL e hg ds ds' vs fl r⟩
  | .dt ks ds, d', v, f, h => by
    obtain ⟨ds', fl, rfl⟩ := Option.map_eq_some_iff.mp (show (frzL g ds).map (D.dt ks) = some d' from f)
    obtain ⟨a, vs, q, m, z, l, r⟩ := h
    exact ⟨a, vs, q, not_pre e m, z, l.trans (by rw [← r.length, ← (frz_repL e hg ds ds' vs fl r).length]), frz_repL e hg ds ds' vs fl r⟩
  | .ins C fs ds, d', v, f, h => by
    obtain ⟨ds', fl, rfl⟩ := Option.map_eq_some_iff.mp (show (frzL g ds).map (D.ins C fs) = some d' from f)
    obtain ⟨a, dx, vs, q, m, z, l, b, r⟩ := h
    exact ⟨a, dx, vs, q, not_pre e m, z, l.trans (by rw [← r.length, ← (frz_repL e hg ds ds' vs fl r).length]), b, frz_repL e hg ds ds' vs fl r⟩
  | .ref n, d', v, f, h => by
    obtain ⟨a, rfl, z⟩ := h
    exact hg n d' a f z
theorem frz_repL {t : Mu} (e : μ1 = μ0 ++ t) {g : Nat → Option D} (hg : ∀ n d' a, g n = some d' → μ1[n]? = some a → Rep F μ0 H d' (.ref a)) :
    ∀ (ds ds' : List D) (vs : List V), frzL g ds = some ds' → RepL F μ1 H ds vs → RepL F μ0 H ds' vs
  | [], _, _, f, h => by cases f; exact h
  | d :: ds, ds', vs, f, h => by
    obtain ⟨d', f1, f2⟩ := Option.bind_eq_some_iff.mp (show (frzD g d).bind (fun d' => (frzL g ds).map (d' :: ·)) = some ds' from f)
    obtain ⟨ds'', f3, rfl⟩ := Option.map_eq_some_iff.mp f2
    obtain ⟨v, r, q, h1, h2⟩ := h
    exact ⟨v, r, q, frz_rep e hg d d' v f1 h1, frz_repL e hg ds ds'' r f3 h2⟩
end
theorem frzN_rep {t : Mu} {S : List O} (e : μ1 = μ0 ++ t) (rel : Rel F μ1 S H) : ∀ (k n : Nat) (d' : D) (a : Addr), frzN μ0.length S k n = some d' → μ1[n]? = some a → Rep F μ0 H d' (.ref a) := by
  have old : ∀ {n : Nat} {a : Addr}, n < μ0.length → μ1[n]? = some a → Rep F μ0 H (.ref n) (.ref a) := fun {n a} hn z => by
    rw [e, List.getElem?_append_left hn] at z
    exact ⟨a, rfl, z⟩
  intro k
  induction k with
  | zero =>
    intro n d' a f z
    unfold frzN at f
    split at f
    · rename_i hn; cases f; exact old hn z
    · cases f
  | succ k ih =>
    intro n d' a f z
    unfold frzN at f
    split at f
    · rename_i hn; cases f; exact old hn z
    · rename_i hn
      have na : a ∉ μ0 := fun m => by
        obtain ⟨j, hj, ej⟩ := List.mem_iff_getElem.mp m
        have hn1 : n < μ1.length := (List.getElem?_eq_some_iff.mp z).1
        have hj1 : j < μ1.length := by rw [e, List.length_append]; omega
        have e1 : μ1[j] = μ1[n] := by
          rw [(List.getElem?_eq_some_iff.mp z).2]
          have : μ1[j]? = some a := by rw [e, List.getElem?_append_left hj, List.getElem?_eq_getElem hj, ej]
          exact (List.getElem?_eq_some_iff.mp this).2
        have := (List.getElem_inj rel.nd).mp e1
        omega
      split at f
      · rename_i ds hs
        obtain ⟨ds', fl, rfl⟩ := Option.map_eq_some_iff.mp f
        obtain ⟨vs, q, r⟩ := rel.obj n _ a hs z
        exact ⟨a, vs, rfl, ⟨na, q⟩, frz_repL e ih ds ds' vs fl r⟩
      · rename_i ks ds hs
        obtain ⟨ds', fl, rfl⟩ := Option.map_eq_some_iff.mp f
        obtain ⟨vs, q, l, r⟩ := rel.obj n _ a hs z
        have r' := frz_repL e ih ds ds' vs fl r
        exact ⟨a, vs, rfl, na, q, l.trans (by rw [← r.length, ← r'.length]), r'⟩
      · rename_i ks ds hs
        obtain ⟨ds', fl, rfl⟩ := Option.map_eq_some_iff.mp f
        obtain ⟨vs, q, l, r⟩ := rel.obj n _ a hs z
        have r' := frz_repL e ih ds ds' vs fl r
        exact ⟨a, vs, rfl, na, q, l.trans (by rw [← r.length, ← r'.length]), r'⟩
      · rename_i C fs ds hs
        obtain ⟨ds', fl, rfl⟩ := Option.map_eq_some_iff.mp f
        obtain ⟨dx, vs, q, l, b, r⟩ := rel.obj n _ a hs z
        have r' := frz_repL e ih ds ds' vs fl r
        exact ⟨a, dx, vs, rfl, na, q, l.trans (by rw [← r.length, ← r'.length]), b, r'⟩
      · cases f
/-- the entry's objects stand on their own -/
theorem Rel.cut {H0 : Hp} {S0 S1 : List O} (rel0 : Rel F μ0 S0 H0) (x : Ext μ0 H0 μ1 H) (rel : Rel F μ1 S1 H) (g : gcOk S0 S1) : Rel F μ0 (S1.take S0.length) H := by
  obtain ⟨t, e⟩ := x.pre
  refine ⟨?_, rel0.nd, fun n o a e1 e2 => ?_⟩
  · rw [List.length_take, rel0.len]; exact (Nat.min_eq_left g.1).symm
  · have hn : n < S0.length := by
      have := (List.getElem?_eq_some_iff.mp e1).1
      rw [List.length_take] at this; omega
    have hn' : n < μ0.length := by rw [rel0.len]; exact hn
    rw [List.getElem?_take_of_lt hn] at e1
    have e2' : μ1[n]? = some a := x.get e2
    have h := rel.obj n o a e1 e2'
    have c : clO μ0.length o = true := by
      rcases g.2 n hn with z | ⟨o', z1, z2⟩
      · rw [z] at e1
        have h0 := rel0.obj n o a e1 e2
        cases o with
        | lst ds => obtain ⟨vs, q, r⟩ := h0; exact rep_clL ds vs r
        | dK ks ds => obtain ⟨vs, q, l, r⟩ := h0; exact rep_clL ds vs r
        | dT ks ds => obtain ⟨vs, q, l, r⟩ := h0; exact rep_clL ds vs r
        | ins C fs ds => obtain ⟨dx, vs, q, l, b, r⟩ := h0; exact rep_clL ds vs r
      · rw [z1] at e1; cases e1
        rw [rel0.len]; exact z2
    cases o with
    | lst ds => obtain ⟨vs, q, r⟩ := h; exact ⟨vs, q, cl_repL e ds vs c r⟩
    | dK ks ds => obtain ⟨vs, q, l, r⟩ := h; exact ⟨vs, q, l, cl_repL e ds vs c r⟩
    | dT ks ds => obtain ⟨vs, q, l, r⟩ := h; exact ⟨vs, q, l, cl_repL e ds vs c r⟩
    | ins C fs ds => obtain ⟨dx, vs, q, l, b, r⟩ := h; exact ⟨dx, vs, q, l, b, cl_repL e ds vs c r⟩
theorem Ext.cut {H0 : Hp} (x : Ext μ0 H0 μ1 H) : Ext μ0 H0 μ0 H := ⟨⟨[], by simp⟩, fun a o m e => ⟨(x.keep a o m e).1, m⟩⟩
theorem lookF_frz {g : Nat → Option D} : ∀ {fs : List Nat} {ds ds' : List D} {f : Nat} {d' : D}, frzL g ds = some ds' → lookF fs ds' f = some d' → ∃ d, lookF fs ds f = some d ∧ frzD g d = some d'
  | [], _, _, _, _, _, h => by unfold lookF at h; cases h
  | i :: fs, [], _, _, _, e, h => by cases e; unfold lookF at h; cases h
  | i :: fs, d :: ds, ds', f, d', e, h => by
    obtain ⟨d1, f1, f2⟩ := Option.bind_eq_some_iff.mp (show (frzD g d).bind (fun d' => (frzL g ds).map (d' :: ·)) = some ds' from e)
    obtain ⟨ds'', f3, rfl⟩ := Option.map_eq_some_iff.mp f2
    unfold lookF at h ⊢
    split at h
    · rename_i z; cases h; rw [if_pos z]; exact ⟨d, rfl, f1⟩
    · rename_i z; rw [if_neg z]; exact lookF_frz f3 h
theorem frzL_len {g : Nat → Option D} : ∀ {ds ds' : List D}, frzL g ds = some ds' → ds'.length = ds.length
  | [], _, e => by cases e; rfl
  | d :: ds, ds', e => by
    obtain ⟨d1, f1, f2⟩ := Option.bind_eq_some_iff.mp (show (frzD g d).bind (fun d' => (frzL g ds).map (d' :: ·)) = some ds' from e)
    obtain ⟨ds'', f3, rfl⟩ := Option.map_eq_some_iff.mp f2
    simp [frzL_len f3]
theorem gcSat {σ : L2.St} {W : WX} {S0 : List O} {r : R D} {Q : VK} (rel0 : Rel F μ0 S0 H) (h : Sat F μ0 H (gcR S0 r) σ W (PD F Q)) : Sat F μ0 H r σ W (PD F Q) := by
  cases r with
  | ok d S' =>
    unfold gcR at h
    dsimp only at h
    split at h
    · rename_i g
      split at h
      · rename_i d' hd
        intro μ1 H1 x rel v rv
        obtain ⟨t, e⟩ := x.pre
        rw [← rel0.len] at hd
        exact h μ0 H1 x.cut (rel0.cut x rel g) v (frz_rep e (frzN_rep e rel 6) d d' v hd rv)
      · exact h.elim
    · exact h.elim
  | ex x S' =>
    unfold gcR at h
    dsimp only at h
    split at h
    · rename_i g
      split at h
      · rename_i vs hd
        intro μ1 H1 cls dd e1 rel xr
        obtain ⟨t, e⟩ := e1.pre
        rw [← rel0.len] at hd
        refine h μ0 H1 cls dd e1.cut (rel0.cut e1 rel g) ?_
        obtain ⟨c1, ⟨c2, c3, c4⟩ | ⟨a, kvs, c2, c3, c4, cn, c5, c6, c7⟩⟩ := xr
        · refine ⟨c1, .inl ⟨c2, ?_, c4⟩⟩
          rw [c3] at hd; cases hd; rfl
        · refine ⟨c1, .inr ⟨a, kvs, c2, not_pre e c3, c4, cn, ?_, c6, fun f d' hl => ?_⟩⟩
          · show x.fs.length = vs.length
            rw [frzL_len hd]; exact c5
          · obtain ⟨d, hl', hf⟩ := lookF_frz hd hl
            obtain ⟨v, k1, k2⟩ := c7 f d hl'
            exact ⟨v, k1, frz_rep e (frzN_rep e rel 6) d d' v hf k2⟩
      · exact h.elim
    · exact h.elim
  | bad => exact h
end
section
variable {X : Cx} {F : Fx} {W : WX} {hi : Option Hi}
theorem sE_frz {e : Expr} {f : Env' → List O → R D} (h : PE X e (tE F W hi f)) : PE X e (tE F W hi fun ρ S => gcR S (f ρ S)) :=
  tE.frz h fun ρ μ S H σ Q rel q => gcSat rel q
theorem PE.bad {e : Expr} {f : Env' → List O → R D} (h : ∀ ρ S, f ρ S = .bad) : PE X e (tE F W hi f) :=
  ⟨fun pins s σ H Q I ⟨ρ, μ, S, _, _, q⟩ => by rw [h] at q; exact q.elim⟩
end
end Ev
end
section
set_option Elab.async false
set_option linter.all false
set_option maxRecDepth 100000
set_option maxHeartbeats 4000000
set_option autoImplicit false
/-! Ev, part I: caught errors, methods, targets, what is walked. -/
namespace Ev
open PySem PySem.Spec PyProof.Rows L2

section
variable {X : Cx} {F : Fx} {W : WX} {hi : Option Hi} {t : Ct}
/-! ### the caught error -/
theorem sE_xf {X0 : Cx} {h : Hi} {oe : Obj} {pn : List (Addr × Obj)} {i f : Nat} {x fn : Str} {p pos : Pos} (hX : X = X0.suite h.a ((h.a, oe) :: pn)) (hz : Zc h.cls h.d oe) (hfd : ∃ vs, oe.data = .fields vs)
    (hh : hi = some h) (hs : h.i = some i) (hN : X.N[i]? = some x) (hv : Vis X.env.scope x) (hd : (x == ("__debug__" : Str)) = false) (hcd : (x == ("__classdict__" : Str)) = false) (hf : F.nm f = fn)
    (hc : ∀ c, (t.xfs c).contains f = true → XfC X.K (F.ca c) ∧ PySem.W.findIn X.K (.ref (F.ca c)) (F.nm f) = some none ∧ f < F.an.length) :
    PE X (.Attribute (.Name x p) fn pos) (tE F W hi fun _ S => match hi.map (·.x) with
      | some x => (match lookF x.fs x.vs f with
        | some d => if (t.xfs x.c).contains f = true then .ok d S else .bad
        | none => .bad)
      | none => .bad) := by
  subst hh hX
  cases hl : lookF h.x.fs h.x.vs f with
  | none => exact PE.bad fun ρ S => by simp [hl]
  | some d =>
    cases hcf : (t.xfs h.x.c).contains f with
    | false => exact PE.bad fun ρ S => by simp only [Option.map_some, hl, hcf]; rfl
    | true =>
      obtain ⟨c1, c2, c3⟩ := hc _ hcf
      subst hf
      refine PE.imp (pe_xf c1 c2 hz hfd (pe_var hN hv hd hcd) (by rfl)) ?_
      intro σ H Q ⟨ρ, μ, S, e, rel, q⟩
      have q' : Sat F μ H (.ok d S) σ W (PD F Q) := by simpa only [Option.map_some, hl, hcf, if_pos] using q
      obtain ⟨⟨xc, xr⟩, hsl⟩ := e.2 h rfl
      refine ⟨_, (hsl i hs).1, rfl, xc, ?_⟩
      rcases xr with ⟨z1, _, _⟩ | ⟨a, kvs, z1, z2, z3, _, z4, z5, z6⟩
      · rw [z1] at hl; unfold lookF at hl; cases hl
      · obtain ⟨v, k1, k2⟩ := z6 f d hl
        exact ⟨a, kvs, v, z1, z3, k1, q'.here rel v k2⟩
theorem sE_xis {X0 : Cx} {h : Hi} {oe : Obj} {pn : List (Addr × Obj)} {i : Nat} {x : Str} {T : TyC} {ce : Expr} {cv : V} {u : Value} {p p2 pos : Pos} (hX : X = X0.suite h.a ((h.a, oe) :: pn)) (hz : Zc h.cls h.d oe) (hfd : ∃ vs, oe.data = .fields vs)
    (hh : hi = some h) (hs : h.i = some i) (hN : X.N[i]? = some x) (hv : Vis X.env.scope x) (hd : (x == ("__debug__" : Str)) = false) (hcd : (x == ("__classdict__" : Str)) = false)
    (hg : Gl X "isinstance") (hm : X.mg "isinstance" = none) (pc : PE X ce (tC cv)) (hu : ∀ w, RelV cv w → w = u) (hpc : plainA ce = true)
    (hc : ∀ c b, xisB t ⟨c, [], []⟩ T = some b → ExcC X.K (F.ca c) ∧ PySem.W.kitOne X.K (.ref (F.ca c)) u = some b) :
    PE X (.Call (.Name "isinstance" p) [.Name x p2, ce] [] pos) (tE F W hi fun _ S => match hi.map (·.x) with
      | some x => (match xisB t x T with
        | some b => if x.fs = [] then .ok (.bl b) S else .bad
        | none => .bad)
      | none => .bad) := by
  subst hh hX
  have hx0 : xisB t h.x T = xisB t ⟨h.x.c, [], []⟩ T := by cases T <;> rfl
  cases hb : xisB t h.x T with
  | none => exact PE.bad fun ρ S => by simp only [Option.map_some, hb]
  | some b =>
    by_cases hf : h.x.fs = []
    · by_cases hcl : h.cls = .ref (F.ca h.x.c) ∧ h.d = none
      · obtain ⟨c1, c2⟩ := hc h.x.c b (hx0 ▸ hb)
        have hz' : Zc (.ref (F.ca h.x.c)) none oe := by rw [← hcl.1, ← hcl.2]; exact hz
        have h2 : PA (X0.suite h.a ((h.a, oe) :: pn)) [.Name x p2, ce] (tCons (tVar i) (tCons (tC cv) tNil)) := pa_cons (pe_var hN hv hd hcd) (pa_cons pc pa_nil (star_is hpc)) (by rfl)
        refine PE.imp (pe_callB (call_isE c1 hz' hfd) hg hm (by rfl) h2 (by decide) (by decide) (by rfl) (star_any (by show (plainA ce && true) = true; rw [hpc]; rfl))) ?_
        intro σ H Q ⟨ρ, μ, S, e, rel, q⟩
        have q' : Sat F μ H (.ok (.bl b) S) σ W (PD F Q) := by simpa only [Option.map_some, hb, hf, if_pos] using q
        obtain ⟨⟨xc, xr⟩, hsl⟩ := e.2 h rfl
        exact ⟨_, (hsl i hs).1, cv, u, b, rfl, hu, c2, q'.here rel _ rfl⟩
      · refine ⟨fun pins s σ H Q I ⟨ρ, μ, S, e, rel, q⟩ => (hcl ?_).elim⟩
        obtain ⟨⟨xc, xr⟩, _⟩ := e.2 h rfl
        rcases xr with ⟨_, _, z⟩ | ⟨a, kvs, z1, z2, z3, zn, _⟩
        · exact ⟨xc, z⟩
        · exact (zn hf).elim
    · exact PE.bad fun ρ S => by simp only [Option.map_some, hb, if_neg hf]

/-! ### built-in methods -/
theorem mt_facts : ∀ m : MT, PlainAttrs m.ty ∧ Slot m.ty m.nm m.id ∧ typeOf (.builtin m.id) = pure (.type "method_descriptor")
  | .append => ⟨PySem.F.plainAttrs_list, PySem.F.slot_list_append, PySem.F.type_list_append⟩
  | .pop => ⟨PySem.F.plainAttrs_list, PySem.F.slot_list_pop, PySem.F.type_list_pop⟩
  | .extend => ⟨PySem.F.plainAttrs_list, PySem.F.slot_list_extend, PySem.F.type_list_extend⟩
  | .insert => ⟨PySem.F.plainAttrs_list, PySem.F.slot_list_insert, PySem.F.type_list_insert⟩
  | .lindex => ⟨PySem.F.plainAttrs_list, PySem.F.slot_list_index, PySem.F.type_list_index⟩
  | .lcount => ⟨PySem.F.plainAttrs_list, PySem.F.slot_list_count, PySem.F.type_list_count⟩
  | .tindex => ⟨PySem.F.plainAttrs_tuple, PySem.F.slot_tuple_index, PySem.F.type_tuple_index⟩
  | .join => ⟨PySem.F.plainAttrs_str, PySem.F.slot_str_join, PySem.F.type_str_join⟩
  | .scount => ⟨PySem.F.plainAttrs_str, PySem.F.slot_str_count, PySem.F.type_str_count⟩
  | .get => ⟨PySem.F.plainAttrs_dict, PySem.F.slot_dict_get, PySem.F.type_dict_get⟩
theorem star_all {pos : Pos} {env : Env} : ∀ {es : List Expr}, es.all plainA = true → (backTo pos (starEach es env)).all (fun x => !x.1) = true
  | [], _ => rfl
  | e :: es, h => by
    have h' := Bool.and_eq_true_iff.mp (show (plainA e && es.all plainA) = true from h)
    rw [star_is h'.1]
    show (!false && (backTo pos (starEach es env)).all fun x => !x.1) = true
    rw [star_all h'.2]; rfl
theorem sE_meth {m : MT} {nm : Str} {o e : Expr} {es : List Expr} {f : Env' → List O → R D} {g : Env' → List O → R (List D)} {apos cpos : Pos} (hk : F.K = X.K) (hu : X.A.units + 64 < cLine) (hmt : m ≠ .tindex) (hnm : m.nm = nm)
    (ho : PE X o (tE F W hi f)) (ha : PA X (e :: es) (tA F W hi g)) (hpo : plainB o = true) (hp : (e :: es).all plainA = true) (hfew : decide ((e :: es).length < 30) = true) (hline : (apos.endLine == cpos.line) = true) :
    PE X (.Call (.Attribute o nm apos) (e :: es) [] cpos) (tE F W hi fun ρ S => (f ρ S).bind fun x S => if m.at S x = true then (g ρ S).bind fun ds S => (methD m x ds S).prim else .bad) := by
  have h' := Bool.and_eq_true_iff.mp (show (plainA e && es.all plainA) = true from hp)
  obtain ⟨f1, f2, f3⟩ := mt_facts m
  subst hnm
  refine PE.imp (pe_bm f1 f2 f3 (mt_S hk hu m) ho ha (plainB_is hpo) ?_ hline (star_is h'.1) (star_any h'.2)) ?_
  · rw [star_all hp]
    show (true && (true && decide _)) = true
    rw [Bool.true_and, Bool.true_and]
    exact hfew
  · intro σ H Q ⟨ρ, μ, S, e, rel, q⟩
    refine tE.goP e rel q fun d μ1 S1 H1 v x1 e1 r1 rd q1 => ?_
    have q2 : Sat F μ1 H1 (if m.at S1 d = true then (g ρ S1).bind fun ds S => (methD m d ds S).prim else .bad) σ W (PD F Q) := q1
    split at q2
    · rename_i hm
      exact ⟨at_ty hk m r1 rd hm hmt, tA.goP e1 r1 q2 fun ds μ2 S2 H2 vs x2 e2 r2 rds q3 => ⟨μ2, S2, d, ds, r2, rd.mono x2, rds, q3.p1⟩⟩
    · exact q2.elim
theorem sE_meth0 {m : MT} {nm : Str} {o : Expr} {f : Env' → List O → R D} {apos cpos : Pos} (hk : F.K = X.K) (hu : X.A.units + 64 < cLine) (hmt : m ≠ .tindex) (hnm : m.nm = nm)
    (ho : PE X o (tE F W hi f)) (hpo : plainB o = true) (hline : (apos.endLine == cpos.line) = true) :
    PE X (.Call (.Attribute o nm apos) [] [] cpos) (tE F W hi fun ρ S => (f ρ S).bind fun x S => if m.at S x = true then (R.ok [] S).bind fun ds S => (methD m x ds S).prim else .bad) := by
  obtain ⟨f1, f2, f3⟩ := mt_facts m
  subst hnm
  refine PE.imp (pe_bm0 f1 f2 f3 (mt_S hk hu m) ho (plainB_is hpo) hline) ?_
  intro σ H Q ⟨ρ, μ, S, e, rel, q⟩
  refine tE.goP e rel q fun d μ1 S1 H1 v x1 e1 r1 rd q1 => ?_
  have q2 : Sat F μ1 H1 (if m.at S1 d = true then (methD m d [] S1).prim else .bad) σ W (PD F Q) := q1
  split at q2
  · rename_i hm
    exact ⟨at_ty hk m r1 rd hm hmt, μ1, S1, d, [], r1, rd, rfl, q2.p1⟩
  · exact q2.elim

/-! ### what is walked -/
def iAny (K : PySem.W.Frag) (te : TE) : TI := fun σ H R => te σ H fun x H1 => (∃ a, x = .ref a ∧ (∃ xs, SqL K H1 a xs) ∧ R (Itl K a) H1) ∨ (∃ a, x = .ref a ∧ (∃ xs, SqT K H1 a xs) ∧ R (Itt K a) H1) ∨ (∃ z, x = .str z ∧ R (Its z) H1)
theorem pi_any {tg l : Expr} {tl : TE} (hl : PE X l tl) : PI X tg l (iAny X.K tl) := by
  refine ⟨fun pins s σ H R I h => ?_⟩
  refine thn (hl.run pins s σ H _ I h) fun v s1 ⟨x, H1, I1, r1, q1⟩ => ?_
  rcases q1 with ⟨a, e, ⟨xs, hq⟩, q⟩ | ⟨a, e, ⟨xs, hq⟩, q⟩ | ⟨z, e, q⟩
  · subst e
    cases r1
    obtain ⟨its, rv, p, hz⟩ := I1.list hq
    refine wpAny_pyIter_list p.isList ?_
    refine ⟨s1.heap.objs.size, [s1.heap.objs.size], _, _, H1, rfl, I1.kept (t' := s1.toks) fun b o e => Heap.get?_push_of_some _ e, turn_list a _, ⟨_, Heap.get?_push_size _ rfl, rfl, rfl⟩, fun b hb => ?_, q⟩
    have e : b = s1.heap.objs.size := by simpa using hb
    subst e
    exact I1.fpOk (Nat.le_refl _) (I1.hok.fresh (Nat.le_refl _))
  · subst e
    cases r1
    obtain ⟨its, rv, p, hz⟩ := I1.tuple hq
    refine wpAny_pyIter_tuple (show s1.heap.IsTuple a its.toArray from p) ?_
    refine ⟨s1.heap.objs.size, [s1.heap.objs.size], _, _, H1, rfl, I1.kept (t' := s1.toks) fun b o e => Heap.get?_push_of_some _ e, turn_tuple a _, ⟨_, Heap.get?_push_size _ rfl, rfl, rfl⟩, fun b hb => ?_, q⟩
    have e : b = s1.heap.objs.size := by simpa using hb
    subst e
    exact I1.fpOk (Nat.le_refl _) (I1.hok.fresh (Nat.le_refl _))
  · subst e
    obtain ⟨t, rfl⟩ := r1
    cases ha : z.cps.all (· < 128)
    · exact wpAny_pyIter_wide ha (pi_one (tk := s1.toks) I1 _ (turn_str _ z t "str_iterator" (.inr rfl)) ⟨_, Heap.get?_push_size _ rfl, rfl, rfl⟩ q)
    · exact wpAny_pyIter_ascii ha (pi_one (tk := s1.toks) I1 _ (turn_str _ z t "str_ascii_iterator" (.inl rfl)) ⟨_, Heap.get?_push_size _ rfl, rfl, rfl⟩ q)
/-- the side that a value is -/
def SdR (F : Fx) (μ : Mu) (S : List O) (H : Hp) (s : Src) (sd : Sd) : Prop :=
  ∀ μ' S' H', Ext μ H μ' H' → Rel F μ' S' H' → gdOk S' s.gd →
    sd.stop F.K H' s.its.length ∧ ∀ (i : Nat) (d : D), s.its[i]? = some d → sd.go F.K H' i ∧ ∀ x, sd.at F.K H' i x → Rep F μ' H' d x
theorem gdOk_app : ∀ {a b : List (Nat × List D)} {S : List O}, gdOk S (a ++ b) → gdOk S a ∧ gdOk S b
  | [], b, S, h => ⟨trivial, h⟩
  | g :: a, b, S, h => ⟨⟨h.1, (gdOk_app h.2).1⟩, (gdOk_app h.2).2⟩
theorem sd_of {μ : Mu} {S : List O} {H : Hp} {d : D} {x : V} {s : Src} (rel : Rel F μ S H) (rd : Rep F μ H d x) (h : srcOf S d = some s) : ∃ sd : Sd, x = sd.v ∧ sd.ok F.K H ∧ SdR F μ S H s sd := by
  have key : ∀ {ds : List D} {a : Addr} {vs : List V}, (SqL F.K H a vs ∧ (∀ μ' H', Ext μ H μ' H' → SqL F.K H' a vs)) ∨ (SqT F.K H a vs ∧ (∀ μ' H', Ext μ H μ' H' → SqT F.K H' a vs)) → RepL F μ H ds vs → ∃ sd : Sd, V.ref a = sd.v ∧ sd.ok F.K H ∧ SdR F μ S H ⟨ds, []⟩ sd := by
    intro ds a vs hq r
    rcases hq with ⟨q, k⟩ | ⟨q, k⟩
    · refine ⟨.l a, rfl, ⟨vs, q⟩, fun μ' S' H' x r' g => ⟨⟨vs, k μ' H' x, r.length⟩, fun i d e => ?_⟩⟩
      obtain ⟨v, e1, e2⟩ := r.get e
      exact ⟨⟨vs, v, k μ' H' x, e1⟩, fun y hy => by
        have := hy vs (k μ' H' x)
        rw [e1] at this; cases this; exact e2.mono x⟩
    · refine ⟨.t a, rfl, ⟨vs, q⟩, fun μ' S' H' x r' g => ⟨⟨vs, k μ' H' x, r.length⟩, fun i d e => ?_⟩⟩
      obtain ⟨v, e1, e2⟩ := r.get e
      exact ⟨⟨vs, v, k μ' H' x, e1⟩, fun y hy => by
        have := hy vs (k μ' H' x)
        rw [e1] at this; cases this; exact e2.mono x⟩
  cases d with
  | str cs =>
    cases h
    cases (show _ = _ from rd)
    refine ⟨.s (mkS cs), rfl, trivial, fun μ' S' H' x r g => ⟨by show (mkS cs).cps.size = _; simp, fun i d' e => ?_⟩⟩
    have e0 : (cs.map fun c => D.str [c])[i]? = some d' := e
    rw [List.getElem?_map] at e0
    obtain ⟨c, e1, rfl⟩ := Option.map_eq_some_iff.mp e0
    have e2 : (mkS cs).cps[i]? = some c := by simpa using e1
    refine ⟨⟨c, e2⟩, fun y hy => ?_⟩
    obtain ⟨c', q1, q2⟩ := hy
    rw [e2] at q1; cases q1
    exact q2
  | ref n =>
    obtain ⟨a, rfl, hm⟩ := rd
    unfold srcOf at h
    dsimp only at h
    split at h
    · rename_i ds hn
      cases h
      obtain ⟨vs, q, r⟩ := rel.obj n _ a hn hm
      refine ⟨.l a, rfl, ⟨vs, SqL.of q⟩, fun μ' S' H' x r' g => ?_⟩
      have g1 := g.1
      dsimp only at g1
      split at g1
      · rename_i ds' hn'
        subst g1
        obtain ⟨vs', q', rr⟩ := r'.obj n _ a hn' (x.get hm)
        refine ⟨⟨vs', SqL.of q', rr.length⟩, fun i d e => ?_⟩
        obtain ⟨v, e1, e2⟩ := rr.get e
        exact ⟨⟨vs', v, SqL.of q', e1⟩, fun y hy => by
          have := hy vs' (SqL.of q')
          rw [e1] at this; cases this; exact e2⟩
      · exact g1.elim
    · cases h
  | tup ds =>
    cases h
    obtain ⟨a, vs, rfl, q, r⟩ := rd
    exact key (.inr ⟨SqT.of q.2, fun μ' H' x => SqT.of (x.keep a _ q.1 q.2).1⟩) r
  | ft ds =>
    cases h
    obtain ⟨a, vs, rfl, q, r⟩ := rd
    exact key (.inr ⟨q.imp (·.2) id, fun μ' H' x => q.imp (fun z => (x.rd z).2) id⟩) r
  | lst ds =>
    cases h
    obtain ⟨a, vs, rfl, q, r⟩ := rd
    exact key (.inl ⟨SqL.of q.2, fun μ' H' x => SqL.of (x.keep a _ q.1 q.2).1⟩) r
  | fl ds =>
    cases h
    obtain ⟨a, vs, rfl, q, r⟩ := rd
    exact key (.inl ⟨q.imp (·.2) id, fun μ' H' x => q.imp (fun z => (x.rd z).2) id⟩) r
  | non => cases h
  | bl b => cases h
  | int i => cases h
  | dk ks ds => cases h
  | dt ks ds => cases h
  | ins C fs ds => cases h
  | cls x => cases h
theorem sI_of {e tg : Expr} {f : Env' → List O → R D} (hk : F.K = X.K) (he : PE X e (tE F W hi f)) : PI X tg e (tI F W hi fun ρ S => (f ρ S).bind fun d S => ofS d S) :=
  PI.imp (pi_any he) fun σ H R ⟨ρ, μ, S, e, rel, q⟩ => tE.goP e rel q fun d μ1 S1 H1 v x1 e1 r1 rd q1 => by
    have q2 : Sat F μ1 H1 (ofS d S1) σ W fun s μ' _ H' => ∀ J, ItOk F μ' H' s J → R J H' := q1
    unfold ofS at q2
    split at q2
    · rename_i s hs
      obtain ⟨sd, rfl, ok, hr⟩ := sd_of r1 rd hs
      have q3 := q2.here r1
      cases sd with
      | l a =>
        refine .inl ⟨a, rfl, hk ▸ ok, q3 _ fun μ' S' H' x r g => ?_⟩
        obtain ⟨⟨xs, k1, k2⟩, h2⟩ := hr μ' S' H' x r g
        refine ⟨⟨xs, hk ▸ k1, by omega⟩, fun i d e => ?_⟩
        obtain ⟨g1, g2⟩ := h2 i d e
        exact ⟨hk ▸ g1, fun y H3 ⟨hy, hat⟩ => by subst hy; exact ⟨Ext.refl _ _, r, g2 y (hk ▸ hat)⟩⟩
      | t a =>
        refine .inr (.inl ⟨a, rfl, hk ▸ ok, q3 _ fun μ' S' H' x r g => ?_⟩)
        obtain ⟨⟨xs, k1, k2⟩, h2⟩ := hr μ' S' H' x r g
        refine ⟨⟨xs, hk ▸ k1, by omega⟩, fun i d e => ?_⟩
        obtain ⟨g1, g2⟩ := h2 i d e
        exact ⟨hk ▸ g1, fun y H3 ⟨hy, hat⟩ => by subst hy; exact ⟨Ext.refl _ _, r, g2 y (hk ▸ hat)⟩⟩
      | s z =>
        refine .inr (.inr ⟨z, rfl, q3 _ fun μ' S' H' x r g => ?_⟩)
        obtain ⟨h1, h2⟩ := hr μ' S' H' x r g
        refine ⟨Nat.le_of_eq h1, fun i d e => ?_⟩
        obtain ⟨⟨c, g1⟩, g2⟩ := h2 i d e
        exact ⟨(Array.getElem?_eq_some_iff.mp g1).1, fun y H3 ⟨hy, hat⟩ => by subst hy; exact ⟨Ext.refl _ _, r, g2 y hat⟩⟩
    · exact q2.elim
theorem rngL_len : ∀ (lo : Int) (n : Nat), (rngL lo n).length = n
  | _, 0 => rfl
  | lo, n + 1 => by show (rngL (lo + 1) n).length + 1 = n + 1; rw [rngL_len]
theorem rngL_get : ∀ (lo : Int) (n i : Nat) (d : D), (rngL lo n)[i]? = some d → i < n ∧ d = .int (lo + i)
  | _, 0, _, _, h => by simp [rngL] at h
  | lo, n + 1, 0, d, h => by
    have : some (D.int lo) = some d := h
    cases this
    exact ⟨by omega, by simp⟩
  | lo, n + 1, i + 1, d, h => by
    obtain ⟨h1, h2⟩ := rngL_get (lo + 1) n i d h
    refine ⟨by omega, ?_⟩
    rw [h2]
    congr 1
    omega
theorem rng_ok {μ : Mu} {H : Hp} {lo : Int} {n : Nat} : ItOk F μ H ⟨rngL lo n, []⟩ (Itr lo n) := fun μ' S' H' x r g => by
  refine ⟨by show n ≤ _; rw [rngL_len]; exact Nat.le_refl _, fun i d e => ?_⟩
  obtain ⟨h1, h2⟩ := rngL_get lo n i d e
  exact ⟨h1, fun y H3 ⟨hy, hv⟩ => by subst hy hv h2; exact ⟨Ext.refl _ _, r, rfl⟩⟩
theorem sI_rng {a tg : Expr} {f : Env' → List O → R D} {p pos : Pos} (hg : Gl X "range") (hm : X.mg "range" = none) (ha : PE X a (tE F W hi f)) (hp : plainA a = true) :
    PI X tg (.Call (.Name "range" p) [a] [] pos) (tI F W hi fun ρ S => (f ρ S).bind fun x S => rngS (.int 0) x S) :=
  PI.imp (pi_range1 hg hm (pa_cons ha pa_nil (star_is hp)) (star_is hp)) fun σ H R ⟨ρ, μ, S, e, rel, q⟩ => tE.goP e rel q fun d μ1 S1 H1 v x1 e1 r1 rd q1 => by
    have q2 : Sat F μ1 H1 (rngS (.int 0) d S1) σ W fun s μ' _ H' => ∀ J, ItOk F μ' H' s J → R J H' := q1
    unfold rngS at q2
    split at q2
    · rename_i i j j2 hj
      injection hj with hj
      subst hj
      cases rep_int rd
      split at q2
      · rename_i hb
        exact ⟨j2, rfl, (inR_b hb.2).1, (inR_b hb.2).2, q2.here r1 _ (by simpa using rng_ok)⟩
      · exact q2.elim
    · exact q2.elim
theorem sI_rng2 {a b tg : Expr} {f g : Env' → List O → R D} {p pos : Pos} (hg : Gl X "range") (hm : X.mg "range" = none) (ha : PE X a (tE F W hi f)) (hb : PE X b (tE F W hi g)) (hp : plainA a = true) (hp2 : plainA b = true) :
    PI X tg (.Call (.Name "range" p) [a, b] [] pos) (tI F W hi fun ρ S => (f ρ S).bind fun x S => (g ρ S).bind fun y S => rngS x y S) :=
  PI.imp (pi_range2 hg hm (pa_cons ha (pa_cons hb pa_nil (star_is hp2)) (star_is hp)) (by rw [star_is hp, star_is hp2]; rfl) (by rw [star_is hp2]; rfl)) fun σ H R ⟨ρ, μ, S, e, rel, q⟩ =>
    tE.goP e rel q fun d μ1 S1 H1 v x1 e1 r1 rd q1 => tE.goP e1 r1 q1 fun d2 μ2 S2 H2 v2 x2 e2 r2 rd2 q2 => by
      have q3 : Sat F μ2 H2 (rngS d d2 S2) σ W fun s μ' _ H' => ∀ J, ItOk F μ' H' s J → R J H' := q2
      unfold rngS at q3
      split at q3
      · cases rep_int rd
        cases rep_int rd2
        split at q3
        · rename_i hb
          exact ⟨_, _, rfl, ⟨(inR_b hb.1).1, (inR_b hb.1).2, (inR_b hb.2).1, (inR_b hb.2).2⟩, q3.here r2 _ rng_ok⟩
        · exact q3.elim
      · exact q3.elim
theorem enmL_get : ∀ (k : Nat) (ds : List D) (i : Nat) (d : D), (enmL k ds)[i]? = some d → ∃ x, ds[i]? = some x ∧ d = .tup [.int ((k + i : Nat) : Int), x]
  | _, [], _, _, h => by simp [enmL] at h
  | k, x :: ds, 0, d, h => by
    have : some (D.tup [.int (k : Int), x]) = some d := h
    cases this
    exact ⟨x, rfl, rfl⟩
  | k, x :: ds, i + 1, d, h => by
    obtain ⟨y, h1, h2⟩ := enmL_get (k + 1) ds i d h
    exact ⟨y, h1, by rw [h2, show k + 1 + i = k + (i + 1) from by omega]⟩
theorem enmL_len : ∀ (k : Nat) (ds : List D), (enmL k ds).length = ds.length
  | _, [] => rfl
  | k, x :: ds => by show (enmL (k + 1) ds).length + 1 = ds.length + 1; rw [enmL_len]
theorem sI_enm {a : Expr} {elts : List Expr} {kk : Nat} {f : Env' → List O → R D} {tpos p pos : Pos} (hk : F.K = X.K) (hg : Gl X "enumerate") (hm : X.mg "enumerate" = none) (ha : PE X a (tE F W hi f)) (hp : plainA a = true) :
    PI X (.Tuple elts kk tpos) (.Call (.Name "enumerate" p) [a] [] pos) (tI F W hi fun ρ S => (f ρ S).bind fun x S => (ofS x S).bind fun s S => .ok (enmS s) S) :=
  PI.imp (pi_enumG hg hm (pa_cons ha pa_nil (star_is hp)) (star_is hp)) fun σ H R ⟨ρ, μ, S, e, rel, q⟩ => tE.goP e rel q fun d μ1 S1 H1 v x1 e1 r1 rd q1 => by
    have q2 : Sat F μ1 H1 ((ofS d S1).bind fun s S => .ok (enmS s) S) σ W fun s μ' _ H' => ∀ J, ItOk F μ' H' s J → R J H' := q1
    unfold ofS at q2
    split at q2
    · rename_i s hs
      obtain ⟨sd, rfl, ok, hr⟩ := sd_of r1 rd hs
      refine ⟨sd, rfl, hk ▸ ok, Sat.here (σ := σ) (W := W) (P := fun s μ' _ H' => ∀ J, ItOk F μ' H' s J → R J H') q2 r1 _ fun μ' S' H' x r g => ?_⟩
      obtain ⟨h1, h2⟩ := hr μ' S' H' x r g
      refine ⟨by show Sd.stop _ _ (enmL 0 s.its).length sd; rw [enmL_len]; exact hk ▸ h1, fun i d e => ?_⟩
      obtain ⟨y, k1, rfl⟩ := enmL_get 0 s.its i d e
      obtain ⟨g1, g2⟩ := h2 i y k1
      refine ⟨hk ▸ g1, fun w H3 ⟨T, z, e1, e2, e3, e4⟩ => ?_⟩
      subst e1 e3
      refine ⟨Ext.laid e2, r.laid e2, T, [.int (i : Nat), z], rfl, ⟨r.fresh e2, upd_same⟩, .int (i : Nat), [z], rfl, ?_, z, [], rfl, (g2 z (hk ▸ e4)).mono (Ext.laid e2), rfl⟩
      show V.int _ = V.int _
      rw [Nat.zero_add]
    · exact q2.elim
theorem sI_zip {a b : Expr} {elts : List Expr} {kk : Nat} {f g : Env' → List O → R D} {tpos p pos : Pos} (hk : F.K = X.K) (hg : Gl X "zip") (hm : X.mg "zip" = none) (ha : PE X a (tE F W hi f)) (hb : PE X b (tE F W hi g)) (hp : plainA a = true) (hp2 : plainA b = true) :
    PI X (.Tuple elts kk tpos) (.Call (.Name "zip" p) [a, b] [] pos) (tI F W hi fun ρ S => (f ρ S).bind fun x S => (g ρ S).bind fun y S => (ofS x S).bind fun s S => (ofS y S).bind fun s' S => .ok (zipS s s') S) :=
  PI.imp (pi_zipG hg hm (pa_cons ha (pa_cons hb pa_nil (star_is hp2)) (star_is hp)) (star_is hp) (star_any (by show (plainA b && true) = true; rw [hp2]; rfl))) fun σ H R ⟨ρ, μ, S, e, rel, q⟩ =>
    tE.goP e rel q fun d μ1 S1 H1 v x1 e1 r1 rd q1 => tE.goP e1 r1 q1 fun d2 μ2 S2 H2 v2 x2 e2 r2 rd2 q2 => by
      have q3 : Sat F μ2 H2 ((ofS d S2).bind fun s S => (ofS d2 S).bind fun s' S => .ok (zipS s s') S) σ W fun s μ' _ H' => ∀ J, ItOk F μ' H' s J → R J H' := q2
      unfold ofS at q3
      split at q3
      · rename_i s hs
        have q4 : Sat F μ2 H2 ((match srcOf S2 d2 with
          | some s => Ev.R.ok s S2
          | none => Ev.R.bad).bind fun s' S => .ok (zipS s s') S) σ W fun s μ' _ H' => ∀ J, ItOk F μ' H' s J → R J H' := q3
        split at q4
        · rename_i s' hs'
          obtain ⟨sd, rfl, ok, hr⟩ := sd_of r2 (rd.mono x2) hs
          obtain ⟨sd', rfl, ok', hr'⟩ := sd_of r2 rd2 hs'
          refine ⟨sd, sd', rfl, hk ▸ ok, hk ▸ ok', Sat.here (σ := σ) (W := W) (P := fun s μ' _ H' => ∀ J, ItOk F μ' H' s J → R J H') q4 r2 _ fun μ' S' H' x r g => ?_⟩
          obtain ⟨g1, g2⟩ := gdOk_app g
          obtain ⟨h1, h2⟩ := hr μ' S' H' x r g1
          obtain ⟨h1', h2'⟩ := hr' μ' S' H' x r g2
          have goA : ∀ j, j < s.its.length → Sd.go X.K H' j sd := fun j hj => hk ▸ (h2 j _ (List.getElem?_eq_getElem hj)).1
          have goB : ∀ j, j < s'.its.length → Sd.go X.K H' j sd' := fun j hj => hk ▸ (h2' j _ (List.getElem?_eq_getElem hj)).1
          refine ⟨?_, fun i d e => ?_⟩
          · have hl : (zipS s s').its.length = min s.its.length s'.its.length := by show List.length (List.map _ _) = _; rw [List.length_map, List.length_zip]
            rw [hl]
            rcases Nat.lt_trichotomy s.its.length s'.its.length with z | z | z
            · rw [Nat.min_eq_left (Nat.le_of_lt z)]
              exact .inl ⟨hk ▸ h1, .inr (goB _ z)⟩
            · rw [z, Nat.min_self]
              exact .inl ⟨z ▸ hk ▸ h1, .inl (hk ▸ h1')⟩
            · rw [Nat.min_eq_right (Nat.le_of_lt z)]
              exact .inr ⟨hk ▸ h1', .inr (goA _ z)⟩
          · have e0 : ((s.its.zip s'.its).map fun p => D.tup [p.1, p.2])[i]? = some d := e
            rw [List.getElem?_map] at e0
            obtain ⟨⟨y, y'⟩, k1, rfl⟩ := Option.map_eq_some_iff.mp e0
            obtain ⟨k2, k3⟩ := List.getElem?_zip_eq_some.mp k1
            obtain ⟨a1, a2⟩ := h2 i y k2
            obtain ⟨b1, b2⟩ := h2' i y' k3
            refine ⟨⟨hk ▸ a1, hk ▸ b1⟩, fun w H3 ⟨T, z, z', e1, e2, e3, e4, e5⟩ => ?_⟩
            subst e1 e3
            exact ⟨Ext.laid e2, r.laid e2, T, [z, z'], rfl, ⟨r.fresh e2, upd_same⟩, z, [z'], rfl, (a2 z (hk ▸ e4)).mono (Ext.laid e2), z', [], rfl, (b2 z' (hk ▸ e5)).mono (Ext.laid e2), rfl⟩
        · exact q4.elim
      · exact q3.elim
end
end Ev
end
section
set_option Elab.async false
set_option linter.all false
set_option maxRecDepth 100000
set_option maxHeartbeats 4000000
set_option autoImplicit false
/-! Ev, part J: targets, comprehensions. -/
namespace Ev
open PySem PySem.Spec PyProof.Rows L2

def lenTs : Ts → Nat
  | .nil => 0
  | .cons _ r => lenTs r + 1
mutual
def tgG (K : PySem.W.Frag) : T → TG
  | .nm i => gName i
  | .tup ts => gTup K (lenTs ts) (tgGs K ts)
def tgGs (K : PySem.W.Frag) : Ts → TGs
  | .nil => gNil
  | .cons t r => gCons (tgG K t) (tgGs K r)
end
mutual
def tSl : T → List Nat
  | .nm i => [i]
  | .tup ts => tSls ts
def tSls : Ts → List Nat
  | .nil => []
  | .cons t r => tSl t ++ tSls r
end
def Agr {α : Type} (L : List Nat) (x y : List α) : Prop := y.length = x.length ∧ ∀ j : Nat, j ∉ L → y[j]? = x[j]?
theorem Agr.refl {α : Type} {L : List Nat} (x : List α) : Agr L x x := ⟨rfl, fun _ _ => rfl⟩
theorem Agr.set {α : Type} {i : Nat} {x : List α} {a : α} : Agr [i] x (x.set i a) := ⟨by simp, fun j h => List.getElem?_set_ne (fun z => h (by simp [z]))⟩
theorem Agr.trans {α : Type} {L L' : List Nat} {x y z : List α} (a : Agr L x y) (b : Agr L' y z) : Agr (L ++ L') x z :=
  ⟨b.1.trans a.1, fun j h => (b.2 j fun m => h (List.mem_append_right _ m)).trans (a.2 j fun m => h (List.mem_append_left _ m))⟩
section
variable {F : Fx} {μ : Mu} {H : Hp}
theorem ERep.set {ρ : Env'} {σ : L2.St} {i : Nat} {d : D} {v : V} (e : ERep F μ H ρ σ) (r : Rep F μ H d v) : ERep F μ H (ρ.set i (some d)) (σ.set i (some v)) := by
  refine ⟨by simp [e.1], fun j d' h => ?_⟩
  by_cases hj : i = j
  · subst hj
    have hl : i < ρ.length := by
      rcases Nat.lt_or_ge i ρ.length with z | z
      · exact z
      · rw [List.getElem?_eq_none (by simpa using z)] at h; cases h
    rw [List.getElem?_set_self hl] at h
    cases h
    exact ⟨v, List.getElem?_set_self (by rw [← e.1]; exact hl), r⟩
  · rw [List.getElem?_set_ne hj] at h ⊢
    exact e.2 j d' h
mutual
theorem asT_go : ∀ (t : T) (d : D) (ρ ρ' : Env') (σ : L2.St) (v : V) (Q : L2.St → Hp → Prop), asT t d ρ = some ρ' → ERep F μ H ρ σ → Rep F μ H d v →
    (∀ σ', ERep F μ H ρ' σ' → Agr (tSl t) σ σ' → Agr (tSl t) ρ ρ' → Q σ' H) → tgG F.K t v σ H Q
  | .nm i, d, ρ, ρ', σ, v, Q, h, e, r, k => by
    cases h
    exact k _ (e.set r) Agr.set Agr.set
  | .tup ts, d, ρ, ρ', σ, v, Q, h, e, r, k => by
    cases d with
    | tup ds =>
      obtain ⟨a, vs, rfl, q, rr⟩ := Rep.seqT r
      obtain ⟨hl, g⟩ := asTs_go ts ds ρ ρ' σ vs Q h e rr k
      exact ⟨a, vs, rfl, q, hl, g⟩
    | ft ds =>
      obtain ⟨a, vs, rfl, q, rr⟩ := Rep.seqF r
      obtain ⟨hl, g⟩ := asTs_go ts ds ρ ρ' σ vs Q h e rr k
      exact ⟨a, vs, rfl, q, hl, g⟩
    | _ => cases h
theorem asTs_go : ∀ (ts : Ts) (ds : List D) (ρ ρ' : Env') (σ : L2.St) (vs : List V) (Q : L2.St → Hp → Prop), asTs ts ds ρ = some ρ' → ERep F μ H ρ σ → RepL F μ H ds vs →
    (∀ σ', ERep F μ H ρ' σ' → Agr (tSls ts) σ σ' → Agr (tSls ts) ρ ρ' → Q σ' H) → vs.length = lenTs ts ∧ tgGs F.K ts vs σ H Q
  | .nil, [], ρ, ρ', σ, vs, Q, h, e, r, k => by
    cases h
    cases (show _ = _ from r)
    exact ⟨rfl, rfl, k _ e (Agr.refl _) (Agr.refl _)⟩
  | .cons t r, d :: ds, ρ, ρ', σ, vs, Q, h, e, rr, k => by
    obtain ⟨ρ1, h1, h2⟩ := Option.bind_eq_some_iff.mp (show (asT t d ρ).bind (fun ρ' => asTs r ds ρ') = some ρ' from h)
    obtain ⟨v, vr, rfl, q1, q2⟩ := rr
    have hl : ∀ σ1, ERep F μ H ρ1 σ1 → vr.length = lenTs r := fun σ1 e1 => (asTs_go r ds ρ1 ρ' σ1 vr (fun _ _ => True) h2 e1 q2 fun _ _ _ _ => trivial).1
    have ht : tgG F.K t v σ H fun σ1 H1 => vr.length = lenTs r ∧ tgGs F.K r vr σ1 H1 Q := asT_go t d ρ ρ1 σ v _ h1 e q1 fun σ1 e1 a1 b1 => asTs_go r ds ρ1 ρ' σ1 vr Q h2 e1 q2 fun σ2 e2 a2 b2 => k σ2 e2 (a1.trans a2) (b1.trans b2)
    refine ⟨?_, v, vr, rfl, asT_go t d ρ ρ1 σ v _ h1 e q1 fun σ1 e1 a1 b1 => (asTs_go r ds ρ1 ρ' σ1 vr Q h2 e1 q2 fun σ2 e2 a2 b2 => k σ2 e2 (a1.trans a2) (b1.trans b2)).2⟩
    show vr.length + 1 = lenTs r + 1
    have := asTs_len r ds ρ1 ρ' h2
    have := q2.length
    omega
  | .nil, _ :: _, _, _, _, _, _, h, _, _, _ => by cases h
  | .cons _ _, [], _, _, _, _, _, h, _, _, _ => by cases h
theorem asTs_len : ∀ (ts : Ts) (ds : List D) (ρ ρ' : Env'), asTs ts ds ρ = some ρ' → ds.length = lenTs ts
  | .nil, [], _, _, _ => rfl
  | .cons t r, d :: ds, ρ, ρ', h => by
    obtain ⟨ρ1, h1, h2⟩ := Option.bind_eq_some_iff.mp (show (asT t d ρ).bind (fun ρ' => asTs r ds ρ') = some ρ' from h)
    show ds.length + 1 = lenTs r + 1
    rw [asTs_len r ds ρ1 ρ' h2]
  | .nil, _ :: _, _, _, h => by cases h
  | .cons _ _, [], _, _, h => by cases h
end
theorem wipe_get (σ : L2.St) : ∀ (vs : List Nat) (j : Nat), (wipe σ vs)[j]? = if j ∈ vs then (if j < σ.length then some none else none) else σ[j]?
  | [], j => by simp [wipe]
  | v :: vs, j => by
    show ((wipe σ vs).set v none)[j]? = _
    by_cases hj : v = j
    · subst hj
      rw [List.getElem?_set_self', if_pos (List.mem_cons_self), wipe_get σ vs v]
      by_cases hm : v ∈ vs
      · rw [if_pos hm]; by_cases hl : v < σ.length <;> simp [hl]
      · rw [if_neg hm]
        by_cases hl : v < σ.length
        · simp [hl]
        · simp [hl]
    · rw [List.getElem?_set_ne hj, wipe_get σ vs j]
      have : (j ∈ v :: vs) ↔ j ∈ vs := by simp [Ne.symm hj]
      simp only [this]
theorem wipe_agr {σ σ' : L2.St} {L vs : List Nat} (a : Agr L σ σ') (h : ∀ i ∈ L, i ∈ vs) : wipe σ' vs = wipe σ vs := by
  apply List.ext_getElem?
  intro j
  rw [wipe_get, wipe_get, a.1]
  by_cases hj : j ∈ vs
  · rw [if_pos hj, if_pos hj]
  · rw [if_neg hj, if_neg hj]
    exact a.2 j fun m => hj (h j m)
theorem wipe_idem (σ : L2.St) (vs : List Nat) : wipe (wipe σ vs) vs = wipe σ vs := by
  apply List.ext_getElem?
  intro j
  rw [wipe_get, wipe_get, wipe_length]
  by_cases hj : j ∈ vs
  · rw [if_pos hj, if_pos hj]
  · rw [if_neg hj, if_neg hj]
theorem wipeD_get : ∀ (ρ : Env') (vs : List Nat) (j : Nat) (d : D), (wipeD ρ vs : List (Option D))[j]? = some (some d) → (ρ : List (Option D))[j]? = some (some d) ∧ j ∉ vs
  | ρ, [], j, d, h => ⟨h, by simp⟩
  | ρ, v :: vs, j, d, h => by
    have h' : ((wipeD ρ vs).set v none : List (Option D))[j]? = some (some d) := h
    by_cases hj : v = j
    · subst hj
      rw [List.getElem?_set_self'] at h'
      cases hw : (wipeD ρ vs : List (Option D))[v]? with
      | none => rw [hw] at h'; cases h'
      | some x => rw [hw] at h'; cases h'
    · rw [List.getElem?_set_ne hj] at h'
      obtain ⟨h1, h2⟩ := wipeD_get ρ vs j d h'
      exact ⟨h1, by simp only [List.mem_cons, not_or]; exact ⟨Ne.symm hj, h2⟩⟩
theorem wipeD_len : ∀ (ρ : Env') (vs : List Nat), (wipeD ρ vs).length = ρ.length
  | _, [] => rfl
  | ρ, v :: vs => by show ((wipeD ρ vs).set v none).length = _; rw [List.length_set, wipeD_len]
theorem ERep.wipe {ρ : Env'} {σ : L2.St} {vs : List Nat} (e : ERep F μ H ρ σ) : ERep F μ H (wipeD ρ vs) (wipe σ vs) := by
  refine ⟨by rw [wipeD_len, wipe_length]; exact e.1, fun j d h => ?_⟩
  obtain ⟨h1, h2⟩ := wipeD_get ρ vs j d h
  rw [wipe_get, if_neg h2]
  exact e.2 j d h1
theorem ItOk.mono {μ' : Mu} {H' : Hp} {s : Src} {J : It} (x : Ext μ H μ' H') (h : ItOk F μ H s J) : ItOk F μ' H' s J := fun μ2 S2 H2 e r g => h μ2 S2 H2 (x.trans e) r g
theorem EnvR.of {ρ : Env'} {σ : L2.St} (e : ERep F μ H ρ σ) : EnvR F none μ H ρ σ := ⟨e, fun h z => nomatch z⟩
end
abbrev W0 : WX := fun _ _ _ _ => False
theorem drop_cons {α : Type} {l : List α} {i : Nat} {d : α} {r : List α} (h : l.drop i = d :: r) : l[i]? = some d ∧ l.drop (i + 1) = r ∧ i < l.length := by
  have hi : i < l.length := by
    rcases Nat.lt_or_ge i l.length with z | z
    · exact z
    · rw [List.drop_eq_nil_of_le z] at h; cases h
  rw [List.drop_eq_getElem_cons hi] at h
  injection h with h1 h2
  exact ⟨by rw [List.getElem?_eq_getElem hi, h1], h2, hi⟩
/-- a clause's turns -/
theorem lc_loop {F : Fx} {μ0 : Mu} {H0 : Hp} {S0 S' : List O} {s : Src} {J : It} {ρ : Env'} {σ : L2.St} {vs : List Nat} {t : T} {n : Nat} {D' : Addr} {fC : Env' → List O → R Bool} {fe : Env' → List O → R D} {End : Hp → Prop}
    (it : ItOk F μ0 H0 s J) (e : ERep F μ0 H0 ρ σ) (rel : Rel F μ0 S0 H0) (hD : μ0[n]? = some D') (hsl : ∀ i ∈ tSl t, i ∈ vs)
    (fin : lcGo n s.gd (fun d S => match asT t d (wipeD ρ vs) with
      | some ρ' => (fC ρ' S).bind fun k S => if k = true then (fe ρ' S).map some else .ok none S
      | none => .bad) s.its S0 = .ok () S') (hend : ∀ μ' H', Ext μ0 H0 μ' H' → Rel F μ' S' H' → End H') :
    ∃ Wv : Nat → Nat → Hp → Prop, (∃ m, Wv 0 m H0) ∧ ∀ i m H, Wv i m H → (J.stop i H ∧ End H) ∨ (J.go i H ∧ ∃ Nx : Hp → Prop, (∀ H', Nx H' → ∃ m', m' < m ∧ Wv (i + 1) m' H') ∧
      ∀ x H', J.yld i H x H' → tgG F.K t x (wipe σ vs) H' fun σ2 H2 => wipe σ2 vs = wipe σ vs ∧ tT F W0 none fC σ2 H2 fun b H3 =>
        if b = true then tE F W0 none fe σ2 H3 fun y H4 => ∃ acc, H4 D' = some (.lst acc) ∧ acc.length < sizeLine ∧ Nx (upd H4 D' (.lst (acc ++ [y]))) else Nx H3) := by
  refine ⟨fun i m H => m = s.its.length - i ∧ i ≤ s.its.length ∧ ∃ μi Si, Ext μ0 H0 μi H ∧ Rel F μi Si H ∧ lcGo n s.gd (fun d S => match asT t d (wipeD ρ vs) with
      | some ρ' => (fC ρ' S).bind fun k S => if k = true then (fe ρ' S).map some else .ok none S
      | none => .bad) (s.its.drop i) Si = .ok () S', ⟨_, rfl, Nat.zero_le _, μ0, S0, Ext.refl _ _, rel, fin⟩, ?_⟩
  rintro i m H ⟨rfl, hi, μi, Si, xi, ri, f⟩
  cases hd : s.its.drop i with
  | nil =>
    rw [hd] at f
    unfold lcGo at f
    have hi' : i = s.its.length := by
      have := List.drop_eq_nil_iff.mp hd
      omega
    split at f
    · rename_i hg
      cases f
      exact .inl ⟨hi' ▸ (it μi _ H xi ri hg).1, hend μi H xi ri⟩
    · cases f
  | cons d ds =>
    rw [hd] at f
    unfold lcGo at f
    obtain ⟨hget, hdr, hlt⟩ := drop_cons hd
    split at f
    · rename_i hg
      obtain ⟨hgo, hy⟩ := (it μi _ H xi ri hg).2 i d hget
      refine .inr ⟨hgo, fun H' => ∃ μ' S2, Ext μ0 H0 μ' H' ∧ Rel F μ' S2 H' ∧ lcGo n s.gd (fun d S => match asT t d (wipeD ρ vs) with
        | some ρ' => (fC ρ' S).bind fun k S => if k = true then (fe ρ' S).map some else .ok none S
        | none => .bad) ds S2 = .ok () S', fun H' ⟨μ', S2, x2, r2, f2⟩ => ⟨s.its.length - (i + 1), by omega, rfl, hlt, μ', S2, x2, r2, by rw [hdr]; exact f2⟩, fun x H' hyl => ?_⟩
      obtain ⟨x1, r1, rd⟩ := hy x H' hyl
      have xi1 := xi.trans x1
      cases ha : asT t d (wipeD ρ vs) with
      | none => rw [ha] at f; cases f
      | some ρ' =>
        rw [ha] at f
        dsimp only at f
        refine asT_go t d _ ρ' _ x _ ha ((e.mono xi1).wipe) rd fun σ2 e2 a2 _ => ⟨by rw [wipe_agr a2 hsl, wipe_idem], ρ', μi, Si, EnvR.of e2, r1, ?_⟩
        cases hc : fC ρ' Si with
        | bad => rw [hc] at f; cases f
        | ex y S3 => rw [hc] at f; cases f
        | ok k S3 =>
          rw [hc] at f
          intro μ3 H3 x3 r3
          have f' : (match (if k = true then (fe ρ' S3).map some else R.ok none S3 : R (Option D)) with
            | .ok none S' => lcGo n s.gd (fun d S => match asT t d (wipeD ρ vs) with
                | some ρ' => (fC ρ' S).bind fun k S => if k = true then (fe ρ' S).map some else .ok none S
                | none => .bad) ds S'
            | .ok (some x) S' => (match S'[n]? with
              | some (.lst acc) => if acc.length < sizeLine then lcGo n s.gd (fun d S => match asT t d (wipeD ρ vs) with
                | some ρ' => (fC ρ' S).bind fun k S => if k = true then (fe ρ' S).map some else .ok none S
                | none => .bad) ds (S'.set n (.lst (acc ++ [x]))) else .bad
              | _ => .bad)
            | _ => .bad) = .ok () S' := f
          by_cases hk : k = true
          · dsimp only
            rw [if_pos hk]
            rw [if_pos hk] at f'
            refine ⟨ρ', μ3, S3, (EnvR.of e2).mono x3, r3, ?_⟩
            cases hf : fe ρ' S3 with
            | bad => rw [hf] at f'; cases f'
            | ex y S4 => rw [hf] at f'; cases f'
            | ok y S4 =>
              rw [hf] at f'
              intro μ4 H4 x4 r4 v rv
              have f2 : (match S4[n]? with
                | some (.lst acc) => if acc.length < sizeLine then lcGo n s.gd (fun d S => match asT t d (wipeD ρ vs) with
                  | some ρ' => (fC ρ' S).bind fun k S => if k = true then (fe ρ' S).map some else .ok none S
                  | none => .bad) ds (S4.set n (.lst (acc ++ [y]))) else R.bad
                | _ => R.bad) = .ok () S' := f'
              split at f2
              · rename_i acc hacc
                split at f2
                · rename_i hz
                  have hD4 : μ4[n]? = some D' := ((xi1.trans x3).trans x4).get hD
                  obtain ⟨vs4, q4, rr4⟩ := r4.obj n _ D' hacc hD4
                  refine ⟨vs4, q4, by rw [rr4.length]; exact hz, μ4, _, ((xi1.trans x3).trans x4).trans (Ext.wr (List.mem_of_getElem? hD4)), r4.wr (o := .lst (acc ++ [y])) hD4 ⟨_, upd_same, ?_⟩, f2⟩
                  exact (rr4.snoc rv).mono (Ext.wr (List.mem_of_getElem? hD4))
                · cases f2
              · cases f2
          · dsimp only
            rw [if_neg hk]
            rw [if_neg hk] at f'
            exact ⟨μ3, S3, xi1.trans x3, r3, f'⟩
    · cases f

section
variable {X : Cx} {F : Fx} {W : WX}
/-- the reading of a comprehension -/
theorem lc_reads {vs : List Nat} {t : T} {fI : Env' → List O → R Src} {fC : Env' → List O → R Bool} {fe : Env' → List O → R D} {σ : L2.St} {H : Hp} {Q : VK} (hsl : ∀ i ∈ tSl t, i ∈ vs)
    (h : tE F W none (fun ρ S => (fI ρ S).bind fun s S => (lcGo S.length s.gd (fun d S' => match asT t d (wipeD ρ vs) with
      | some ρ' => (fC ρ' S').bind fun k S' => if k = true then (fe ρ' S').map some else .ok none S'
      | none => .bad) s.its (S ++ [.lst []])).prim.bind fun _ S' => .ok (.ref S.length) S') σ H Q) :
    tLc (tI F W none fI) (tgG F.K t) (tT F W0 none fC) (tE F W0 none fe) vs σ H Q := by
  obtain ⟨ρ, μ, S, e, rel, q⟩ := h
  refine ⟨ρ, μ, S, e, rel, q.bind.imp fun s μ1 S1 H1 x1 r1 q1 J hJ D' hn => ?_⟩
  have rp : Rel F (μ1 ++ [D']) (S1 ++ [.lst []]) (upd H1 D' (.lst [])) := r1.push hn ⟨[], upd_same, rfl⟩
  have xp : Ext μ1 H1 (μ1 ++ [D']) (upd H1 D' (.lst [])) := Ext.push hn
  cases hf : lcGo S1.length s.gd (fun d S' => match asT t d (wipeD ρ vs) with
      | some ρ' => (fC ρ' S').bind fun k S' => if k = true then (fe ρ' S').map some else .ok none S'
      | none => .bad) s.its (S1 ++ [.lst []]) with
  | bad => rw [hf] at q1; exact q1.elim
  | ex y S2 => rw [hf] at q1; exact q1.elim
  | ok u S2 =>
    rw [hf] at q1
    have hD : (μ1 ++ [D'])[S1.length]? = some D' := by rw [← r1.len]; simp
    exact lc_loop (hJ.mono xp) ((e.1.mono x1).mono xp) rp hD hsl hf fun μ' H' x' r' => q1 μ' H' (xp.trans x') r' (.ref D') ⟨D', rfl, x'.get hD⟩
theorem lc2_reads {vs vs1 : List Nat} {t t1 : T} {fI fI1 : Env' → List O → R Src} {fe : Env' → List O → R D} {σ : L2.St} {H : Hp} {Q : VK} (hsl : ∀ i ∈ tSl t, i ∈ vs) (hsl1 : ∀ i ∈ tSl t1, i ∈ vs1)
    (h : tE F W none (fun ρ S => (fI ρ S).bind fun s S => (lc2Go s.gd (fun d S' => match asT t d (wipeD ρ vs) with
      | some ρ' => (fI1 ρ' S').bind fun s1 S' => lcGo S.length s1.gd (fun d1 S' => match asT t1 d1 (wipeD ρ' vs1) with
        | some ρ'' => (R.ok true S').bind fun k S' => if k = true then (fe ρ'' S').map some else .ok none S'
        | none => .bad) s1.its S'
      | none => .bad) s.its (S ++ [.lst []])).prim.bind fun _ S' => .ok (.ref S.length) S') σ H Q) :
    tLc2 (tI F W none fI) (tgG F.K t) tYes (tI F W0 none fI1) (tgG F.K t1) (tT F W0 none fun _ S => .ok true S) (tE F W0 none fe) vs vs1 σ H Q := by
  obtain ⟨ρ, μ, S, e, rel, q⟩ := h
  refine ⟨ρ, μ, S, e, rel, q.bind.imp fun s μ1 S1 H1 x1 r1 q1 J hJ D' hn => ?_⟩
  have rp : Rel F (μ1 ++ [D']) (S1 ++ [.lst []]) (upd H1 D' (.lst [])) := r1.push hn ⟨[], upd_same, rfl⟩
  have xp : Ext μ1 H1 (μ1 ++ [D']) (upd H1 D' (.lst [])) := Ext.push hn
  generalize hF : (fun (d : D) (S' : List O) => match asT t d (wipeD ρ vs) with
      | some ρ' => (fI1 ρ' S').bind fun s1 S' => lcGo S1.length s1.gd (fun d1 S' => match asT t1 d1 (wipeD ρ' vs1) with
        | some ρ'' => (R.ok true S').bind fun k S' => if k = true then (fe ρ'' S').map some else .ok none S'
        | none => .bad) s1.its S'
      | none => .bad) = FF at q1
  cases hf : lc2Go s.gd FF s.its (S1 ++ [.lst []]) with
  | bad => rw [hf] at q1; exact q1.elim
  | ex y S2 => rw [hf] at q1; exact q1.elim
  | ok u S2 =>
    rw [hf] at q1
    have hD : (μ1 ++ [D'])[S1.length]? = some D' := by rw [← r1.len]; simp
    have it0 := hJ.mono xp
    have e0 := (e.1.mono x1).mono xp
    refine ⟨fun i m H => m = s.its.length - i ∧ i ≤ s.its.length ∧ ∃ μi Si, Ext (μ1 ++ [D']) (upd H1 D' (.lst [])) μi H ∧ Rel F μi Si H ∧ lc2Go s.gd FF (s.its.drop i) Si = .ok u S2, ⟨_, rfl, Nat.zero_le _, _, _, Ext.refl _ _, rp, hf⟩, ?_⟩
    rintro i m H ⟨rfl, hi, μi, Si, xi, ri, f⟩
    cases hd : s.its.drop i with
    | nil =>
      rw [hd] at f
      unfold lc2Go at f
      have hi' : i = s.its.length := by
        have := List.drop_eq_nil_iff.mp hd
        omega
      split at f
      · rename_i hg
        cases f
        exact .inl ⟨hi' ▸ (it0 μi _ H xi ri hg).1, q1 μi H (xp.trans xi) ri (.ref D') ⟨D', rfl, xi.get hD⟩⟩
      · cases f
    | cons d ds =>
      rw [hd] at f
      unfold lc2Go at f
      obtain ⟨hget, hdr, hlt⟩ := drop_cons hd
      split at f
      · rename_i hg
        obtain ⟨hgo, hy⟩ := (it0 μi _ H xi ri hg).2 i d hget
        refine .inr ⟨hgo, fun H' => ∃ μ' S3, Ext (μ1 ++ [D']) (upd H1 D' (.lst [])) μ' H' ∧ Rel F μ' S3 H' ∧ lc2Go s.gd FF ds S3 = .ok u S2, fun H' ⟨μ', S3, x2, r2, f2⟩ => ⟨s.its.length - (i + 1), by omega, rfl, hlt, μ', S3, x2, r2, by rw [hdr]; exact f2⟩, fun x H' hyl => ?_⟩
        obtain ⟨x2, r2, rd⟩ := hy x H' hyl
        have xi1 := xi.trans x2
        have f0 : FF d Si = (match asT t d (wipeD ρ vs) with
          | some ρ' => (fI1 ρ' Si).bind fun s1 S' => lcGo S1.length s1.gd (fun d1 S' => match asT t1 d1 (wipeD ρ' vs1) with
            | some ρ'' => (R.ok true S').bind fun k S' => if k = true then (fe ρ'' S').map some else .ok none S'
            | none => .bad) s1.its S'
          | none => .bad) := by rw [← hF]
        cases ha : asT t d (wipeD ρ vs) with
        | none => rw [f0, ha] at f; cases f
        | some ρ' =>
          rw [ha] at f0
          dsimp only at f0
          refine asT_go t d _ ρ' _ x _ ha ((e0.mono xi1).wipe) rd fun σ2 e2 a2 _ => ⟨by rw [wipe_agr a2 hsl, wipe_idem], ?_⟩
          unfold tYes
          dsimp only
          rw [if_pos rfl]
          refine ⟨ρ', μi, Si, EnvR.of e2, r2, ?_⟩
          cases hc : fI1 ρ' Si with
          | bad => rw [f0, hc] at f; cases f
          | ex y S3 => rw [f0, hc] at f; cases f
          | ok s1 S3 =>
            rw [hc] at f0
            intro μ3 H3 x3 r3 J1 hJ1
            have f1 : FF d Si = lcGo S1.length s1.gd (fun d1 S' => match asT t1 d1 (wipeD ρ' vs1) with
              | some ρ'' => (R.ok true S').bind fun k S' => if k = true then (fe ρ'' S').map some else .ok none S'
              | none => .bad) s1.its S3 := f0
            cases hl : lcGo S1.length s1.gd (fun d1 S' => match asT t1 d1 (wipeD ρ' vs1) with
              | some ρ'' => (R.ok true S').bind fun k S' => if k = true then (fe ρ'' S').map some else .ok none S'
              | none => .bad) s1.its S3 with
            | bad => rw [f1, hl] at f; cases f
            | ex y S4 => rw [f1, hl] at f; cases f
            | ok w S4 =>
              rw [f1, hl] at f
              exact lc_loop (fC := fun _ S => .ok true S) hJ1 (e2.mono x3) r3 ((xi1.trans x3).get hD) hsl1 hl fun μ' H' x' r' => ⟨μ', S4, (xi1.trans x3).trans x', r', f⟩
      · cases f
end
end Ev
end
section
set_option Elab.async false
set_option linter.all false
set_option maxRecDepth 100000
set_option maxHeartbeats 4000000
set_option autoImplicit false
/-! Ev, part K: statements. -/
namespace Ev
open PySem PySem.Spec PyProof.Rows L2

def SatF (F : Fx) (hi : Option Hi) (W : WX) (D : Ends) (μ : Mu) (H : Hp) (f : Fl) : Prop := match f with
  | .nx ρ S => ∀ μ' H' σ', Ext μ H μ' H' → Rel F μ' S H' → EnvR F hi μ' H' ρ σ' → D.nx σ' H'
  | .rt d S => ∀ μ' H' v, Ext μ H μ' H' → Rel F μ' S H' → Rep F μ' H' d v → D.rt v H'
  | .ex x ρ S => ∀ μ' H' σ' cls dd, Ext μ H μ' H' → Rel F μ' S H' → EnvR F hi μ' H' ρ σ' → XRep F μ' H' x cls dd → W cls dd σ' H'
  | .bad => False
def tS (F : Fx) (W : WX) (hi : Option Hi) (f : Env' → List O → Fl) : TS := fun D σ H => ∃ ρ μ S, EnvR F hi μ H ρ σ ∧ Rel F μ S H ∧ SatF F hi W D μ H (f ρ S)
section
variable {F : Fx} {hi : Option Hi} {W : WX} {En : Ends} {μ μ' : Mu} {H H' : Hp} {ρ : Env'} {σ : L2.St} {S : List O}
theorem SatF.mono {f : Fl} (x : Ext μ H μ' H') (h : SatF F hi W En μ H f) : SatF F hi W En μ' H' f := by
  cases f with
  | nx ρ S => exact fun μ2 H2 σ2 e r z => h μ2 H2 σ2 (x.trans e) r z
  | rt d S => exact fun μ2 H2 v e r z => h μ2 H2 v (x.trans e) r z
  | ex y ρ S => exact fun μ2 H2 σ2 cls dd e r z q => h μ2 H2 σ2 cls dd (x.trans e) r z q
  | bad => exact h
theorem SatF.fl {α : Type} {r : R α} {k : α → List O → Fl} (e : EnvR F hi μ H ρ σ) (h : SatF F hi W En μ H (r.fl ρ k)) : Sat F μ H r σ W fun a μ' S' H' => SatF F hi W En μ' H' (k a S') := by
  cases r with
  | ok a S => exact fun μ2 H2 x r => SatF.mono x h
  | ex y S => exact fun μ2 H2 cls d x r z => h μ2 H2 σ cls d x r (e.mono x) z
  | bad => exact h
theorem SatF.bind {f : Fl} {k : Env' → List O → Fl} (h : SatF F hi W En μ H (f.bind k)) :
    SatF F hi W { En with nx := fun σ' H' => tS F W hi k En σ' H' } μ H f := by
  cases f with
  | nx ρ S => exact fun μ2 H2 σ2 x r e => ⟨ρ, μ2, S, e, r, SatF.mono x h⟩
  | rt d S => exact h
  | ex y ρ S => exact h
  | bad => exact h
theorem SatF.nx (h : SatF F hi W En μ H (.nx ρ S)) (rel : Rel F μ S H) (e : EnvR F hi μ H ρ σ) : En.nx σ H := h μ H σ (Ext.refl _ _) rel e
/-- a name's slot is stored -/
theorem EnvR.asT {t : T} {d : D} {ρ' : Env'} {v : V} {Q : L2.St → Hp → Prop} (e : EnvR F hi μ H ρ σ) (r : Rep F μ H d v) (h : Ev.asT t d ρ = some ρ') (hs : ∀ q, hi = some q → ∀ i, q.i = some i → i ∉ tSl t)
    (k : ∀ σ', EnvR F hi μ H ρ' σ' → Q σ' H) : tgG F.K t v σ H Q :=
  asT_go t d ρ ρ' σ v Q h e.1 r fun σ' e' a1 a2 => k σ' ⟨e', fun q hq => ⟨(e.2 q hq).1, fun i hqi => by
    have ni := hs q hq i hqi
    rw [a1.2 i ni, a2.2 i ni]
    exact (e.2 q hq).2 i hqi⟩⟩
end

section
variable {X : Cx} {F : Fx} {W : WX} {hi : Option Hi}
theorem PS.imp {st : Stmt} {t t' : TS} (h : PS X st t) (i : ∀ D σ H, t' D σ H → t D σ H) : PS X st t' := ⟨fun pins s σ H D I q => h.run pins s σ H D I (i _ _ _ q)⟩
theorem PSs.imp {st : List Stmt} {t t' : TS} (h : PSs X st t) (i : ∀ D σ H, t' D σ H → t D σ H) : PSs X st t' := ⟨fun pins s σ H D I q => h.run pins s σ H D I (i _ _ _ q)⟩
theorem sS_next {st : Stmt} (h : PS X st tNext) : PS X st (tS F W hi fun ρ S => .nx ρ S) := PS.imp h fun D σ H ⟨ρ, μ, S, e, rel, q⟩ => SatF.nx q rel e
theorem sS_nil : PSs X [] (tS F W hi fun ρ S => .nx ρ S) := PSs.imp pss_nil fun D σ H ⟨ρ, μ, S, e, rel, q⟩ => SatF.nx q rel e
theorem sS_cons {st : Stmt} {r : List Stmt} {f g : Env' → List O → Fl} (h : PS X st (tS F W hi f)) (hr : PSs X r (tS F W hi g)) : PSs X (st :: r) (tS F W hi fun ρ S => (f ρ S).bind fun ρ' S' => g ρ' S') :=
  PSs.imp (pss_cons h hr) fun D σ H ⟨ρ, μ, S, e, rel, q⟩ => ⟨ρ, μ, S, e, rel, SatF.bind q⟩
theorem sS_ret {e : Expr} {f : Env' → List O → R D} {pos : Pos} (he : PE X e (tE F W hi f)) : PS X (.Return (some e) pos) (tS F W hi fun ρ S => (f ρ S).fl ρ fun d S => .rt d S) :=
  PS.imp (ps_ret he) fun D σ H ⟨ρ, μ, S, e, rel, q⟩ => ⟨ρ, μ, S, e, rel, (SatF.fl e q).imp fun d μ1 S1 H1 x1 r1 q1 v rv => q1 μ1 H1 v (Ext.refl _ _) r1 rv⟩
theorem sS_retN {pos : Pos} : PS X (.Return none pos) (tS F W hi fun _ S => .rt .non S) :=
  PS.imp ps_retN fun D σ H ⟨ρ, μ, S, e, rel, q⟩ => q μ H .non (Ext.refl _ _) rel rfl
def isLC : Expr → Bool
  | .ListComp .. => true
  | .SetComp .. => true
  | .DictComp .. => true
  | _ => false
theorem sw_plain {e : Expr} {tg : Option Expr} {l : Nat} {env : Env} (h : isLC e = false) : swapsWith e tg l env = pure false := by
  cases e <;> first | exact (Bool.false_ne_true h.symm).elim | rfl
theorem sS_exp {e : Expr} {f : Env' → List O → R D} {pos : Pos} (he : PE X e (tE F W hi f)) (hl : isLC e = false) : PS X (.Expr e pos) (tS F W hi fun ρ S => (f ρ S).fl ρ fun _ S => .nx ρ S) :=
  PS.imp (ps_expr he (sw_plain hl)) fun D σ H ⟨ρ, μ, S, e, rel, q⟩ => ⟨ρ, μ, S, e, rel, (SatF.fl e q).imp fun d μ1 S1 H1 x1 r1 q1 v rv => SatF.nx q1 r1 (e.mono x1)⟩
def isTp : Expr → Bool
  | .Tuple .. => true
  | _ => false
def isLs : Expr → Bool
  | .List .. => true
  | _ => false
theorem sws_none {tg e : Expr} {env : Env} (h : (isTp tg && isTp e) = false) (h2 : isLs tg = false) : swappedStores [tg] e env = pure none := by
  cases tg with
  | Tuple es k p =>
    cases e with
    | Tuple vs k2 p2 => exact (Bool.false_ne_true h.symm).elim
    | _ => rfl
  | List es p => exact (Bool.false_ne_true h2.symm).elim
  | _ => rfl
theorem ae_one {tg : Expr} {env : Env} (h : plainA tg = true) : (assignEach [tg] env).map (·.2) = [assign tg env] := by
  cases tg <;> first | exact (Bool.false_ne_true h).elim | rfl
theorem ae_cons {tg : Expr} {r : List Expr} {env : Env} (h : plainA tg = true) : assignEach (tg :: r) env = (false, assign tg env) :: assignEach r env := by
  cases tg <;> first | exact (Bool.false_ne_true h).elim | rfl
theorem ae_len {env : Env} : ∀ {es : List Expr}, es.all plainA = true → (assignEach es env).length = es.length
  | [], _ => rfl
  | e :: es, h => by
    have h' := Bool.and_eq_true_iff.mp (show (plainA e && es.all plainA) = true from h)
    rw [ae_cons h'.1]
    show (assignEach es env).length + 1 = es.length + 1
    rw [ae_len h'.2]
theorem ae_find {env : Env} : ∀ {es : List Expr}, es.all plainA = true → (assignEach es env).findIdx? (·.1) = none
  | [], _ => rfl
  | e :: es, h => by
    have h' := Bool.and_eq_true_iff.mp (show (plainA e && es.all plainA) = true from h)
    rw [ae_cons h'.1, List.findIdx?_cons, ae_find h'.2]
    rfl
theorem sS_asg {tg e : Expr} {t : T} {f : Env' → List O → R D} {pos : Pos} (hk : F.K = X.K) (he : PE X e (tE F W hi f)) (hg : PG X tg (tgG X.K t)) (hsw : swapsWithSole [tg] e pos.line X.env = pure false) (hw : (isTp tg && isTp e) = false) (hls : isLs tg = false) (hp : plainA tg = true)
    (hs : ∀ q, hi = some q → ∀ i, q.i = some i → i ∉ tSl t) :
    PS X (.Assign [tg] e pos) (tS F W hi fun ρ S => (f ρ S).fl ρ fun d S => (match asT t d ρ with
      | some ρ' => .nx ρ' S
      | none => .bad)) :=
  PS.imp (ps_asg he hg hsw (sws_none hw hls) (ae_one hp)) fun D σ H ⟨ρ, μ, S, e, rel, q⟩ => ⟨ρ, μ, S, e, rel, (SatF.fl e q).imp fun d μ1 S1 H1 x1 r1 q1 v rv => by
    cases ha : asT t d ρ with
    | none => rw [ha] at q1; exact q1.elim
    | some ρ' =>
      rw [ha] at q1
      rw [← hk]
      exact EnvR.asT (e.mono x1) rv ha hs fun σ' e' => SatF.nx q1 r1 e'⟩
theorem gcBSat {F : Fx} {μ : Mu} {H : Hp} {S : List O} {σ : L2.St} {z : Bool} {r : R D} {Q : VK} (rel : Rel F μ S H) (h : Sat F μ H (gcB z S r) σ W (PD F Q)) : Sat F μ H r σ W (PD F Q) := by
  unfold gcB at h
  split at h
  · exact gcSat rel h
  · exact h
/-- name = a comprehension, stored as it ends -/
theorem sS_asgLc {st : Stmt} {i : Nat} {z : Bool} {f : Env' → List O → R D} {te : TE} (rule : PS X st (tAsg te (gName i))) (hr : ∀ σ H Q, tE F W hi f σ H Q → te σ H Q) (hs : ∀ q, hi = some q → ∀ j, q.i = some j → j ≠ i) :
    PS X st (tS F W hi fun ρ S => (gcB z S (f ρ S)).fl ρ fun d S => .nx (ρ.set i (some d)) S) :=
  PS.imp rule fun D σ H ⟨ρ, μ, S, e, rel, q⟩ => hr _ _ _ ⟨ρ, μ, S, e, rel, gcBSat rel ((SatF.fl e q).imp fun d μ1 S1 H1 x1 r1 q1 v rv => by
    have g : tgG F.K (.nm i) v σ H1 D.nx := EnvR.asT (t := .nm i) (e.mono x1) rv rfl (fun q hq j hj m => hs q hq j hj (by simpa [tSl] using m)) fun σ' e' => SatF.nx q1 r1 e'
    exact g)⟩
theorem sS_par {i j : Nat} {x y : Str} {a b : Expr} {f g : Env' → List O → R D} {px py pt : Pos} {kt k2 pt2} {pos : Pos} (hc : X.calm = true) (hN : X.N.Nodup) (hi' : X.N[i]? = some x) (hj : X.N[j]? = some y) (hij : i ≠ j)
    (hx : X.env.scope.names.lookup x = some .local) (hy : X.env.scope.names.lookup y = some .local) (ha : PE X a (tE F W none f)) (hb : PE X b (tE F W none g)) (hpa : plainA a = true) (hpb : plainA b = true)
    (hw : swappedStores [.Tuple [.Name x px, .Name y py] kt pt] (.Tuple [a, b] k2 pt2) X.env = pure (some [x, y])) :
    PS X (.Assign [.Tuple [.Name x px, .Name y py] kt pt] (.Tuple [a, b] k2 pt2) pos) (tS F W none fun ρ S => (f ρ S).fl ρ fun x S => (g ρ S).fl ρ fun y S => .nx ((ρ.set i (some x)).set j (some y)) S) :=
  PS.imp (ps_par hc hN hi' hj hij hx hy (pa_cons ha (pa_cons hb pa_nil (star_is hpb)) (star_is hpa)) hw (by rfl)) fun D σ H ⟨ρ, μ, S, e, rel, q⟩ =>
    ⟨ρ, μ, S, e, rel, (SatF.fl e q).imp fun d μ1 S1 H1 x1 r1 q1 v rv => ⟨ρ, μ1, S1, e.mono x1, r1, (SatF.fl (e.mono x1) q1).imp fun d2 μ2 S2 H2 x2 r2 q2 v2 rv2 =>
      ⟨v, v2, rfl, SatF.nx q2 r2 (EnvR.of ((((e.mono x1).mono x2).1.set (rv.mono x2)).set rv2))⟩⟩⟩
theorem asgI_is {o i : Expr} {pos : Pos} {env : Env} (h : plainI i = true) (v : Value) : assign (.Subscript o i pos) env v = (do
      let ov ← holding [v] (eval o env)
      let iv ← holding [v, ov] (eval i env)
      standAt pos
      holding [v, ov, iv] (setItem ov iv v)
      release [v, ov, iv] []) := by
  cases i <;> first | exact (Bool.false_ne_true h).elim | rfl
theorem sS_asgI {o i e : Expr} {f g h : Env' → List O → R D} {p pos : Pos} (hu : X.A.units + 64 < cLine) (he : PE X e (tE F W hi f)) (ho : PE X o (tE F W hi g)) (hii : PE X i (tE F W hi h)) (hp : plainI i = true) (hsw : swapsWithSole [.Subscript o i p] e pos.line X.env = pure false) :
    PS X (.Assign [.Subscript o i p] e pos) (tS F W hi fun ρ S => (f ρ S).fl ρ fun d S => (g ρ S).fl ρ fun x S => (h ρ S).fl ρ fun y S => (setD x y d S).prim.fl ρ fun _ S => .nx ρ S) :=
  PS.imp (ps_asg he (pg_sub ho hii (set_S (F := F) hu) (asgI_is hp)) hsw (sws_none (by rfl) (by rfl)) (by rfl)) fun D σ H ⟨ρ, μ, S, e, rel, q⟩ =>
    ⟨ρ, μ, S, e, rel, (SatF.fl e q).imp fun d μ1 S1 H1 x1 r1 q1 v rv => ⟨ρ, μ1, S1, e.mono x1, r1, (SatF.fl (e.mono x1) q1).imp fun d2 μ2 S2 H2 x2 r2 q2 v2 rv2 =>
      ⟨ρ, μ2, S2, (e.mono x1).mono x2, r2, (SatF.fl ((e.mono x1).mono x2) q2).imp fun d3 μ3 S3 H3 x3 r3 q3 v3 rv3 =>
        ⟨μ3, S3, d2, d3, d, r3, rv2.mono x3, rv3, (rv.mono x2).mono x3, by
          cases hs : setD d2 d3 d S3 with
          | ok u S4 =>
            rw [hs] at q3
            exact fun μ4 H4 x4 r4 => q3 μ4 H4 σ x4 r4 ((((e.mono x1).mono x2).mono x3).mono x4)
          | ex y S4 => rw [hs] at q3; exact q3.elim
          | bad => rw [hs] at q3; exact q3.elim⟩⟩⟩⟩
theorem putD_rep {μ : Mu} {H : Hp} {f : Nat} {d : D} {v : V} (hf : f < F.an.length) (rd : Rep F μ H d v) : ∀ {fs : List Nat} {ds : List D} {vs : List V}, RepL F μ H ds vs → fs.length = ds.length → (∀ g ∈ fs, g < F.an.length) →
    ∃ vs', putF (F.nm f) v ((fs.map F.nm).zip vs) = (((putD fs ds f d).1.map F.nm).zip vs') ∧ RepL F μ H (putD fs ds f d).2 vs' ∧ (putD fs ds f d).1.length = (putD fs ds f d).2.length ∧ (∀ g ∈ (putD fs ds f d).1, g < F.an.length)
  | [], [], vs, r, _, _ => by
    cases (show _ = _ from r)
    exact ⟨[v], rfl, ⟨v, [], rfl, rd, rfl⟩, rfl, fun g hg => by simp [putD] at hg; omega⟩
  | g :: fs, e :: ds, vs, r, hl, hb => by
    obtain ⟨w, wr, rfl, r1, r2⟩ := r
    unfold putD
    by_cases hg : g = f
    · subst hg
      rw [if_pos rfl]
      refine ⟨v :: wr, ?_, ⟨v, wr, rfl, rd, r2⟩, hl, hb⟩
      show (if F.nm g = F.nm g then _ else _) = _
      rw [if_pos rfl]; rfl
    · rw [if_neg hg]
      obtain ⟨vs', e1, e2, e3, e4⟩ := putD_rep hf rd r2 (by simpa using hl) (fun g hg => hb g (List.mem_cons_of_mem _ hg))
      refine ⟨w :: vs', ?_, ⟨w, vs', rfl, r1, e2⟩, by simp [e3], fun k hk => ?_⟩
      · show (if F.nm g = F.nm f then _ else _) = _
        rw [if_neg (fun z => hg (Fx.inj (hb g List.mem_cons_self) hf z))]
        exact congrArg (List.cons (F.nm g, w)) e1
      · rcases List.mem_cons.mp hk with rfl | hk
        · exact hb _ List.mem_cons_self
        · exact e4 k hk
  | [], _ :: _, _, _, hl, _ => by cases hl
  | _ :: _, [], _, _, hl, _ => by cases hl
theorem sS_asgF {t : Ct} {o e : Expr} {f : Nat} {fn : Str} {g h : Env' → List O → R D} {p pos : Pos} (he : PE X e (tE F W hi g)) (ho : PE X o (tE F W hi h)) (hf : F.nm f = fn) (hl : isLC e = false)
    (hc : ∀ C, t.fld C f = true → Cls X.K (F.ca C) ∧ NoAttr X.K (F.ca C) (F.nm f) ∧ f < F.an.length) :
    PS X (.Assign [.Attribute o fn p] e pos) (tS F W hi fun ρ S => (g ρ S).fl ρ fun d S => (h ρ S).fl ρ fun x S => (setF t x f d S).fl ρ fun _ S => .nx ρ S) :=
  PS.imp (ps_fld ho he (sw_plain hl)) fun D σ H ⟨ρ, μ, S, e, rel, q⟩ =>
    ⟨ρ, μ, S, e, rel, (SatF.fl e q).imp fun d μ1 S1 H1 x1 r1 q1 v rv => ⟨ρ, μ1, S1, e.mono x1, r1, (SatF.fl (e.mono x1) q1).imp fun d2 μ2 S2 H2 x2 r2 q2 v2 rv2 => by
      subst hf
      have e2 := (e.mono x1).mono x2
      unfold setF at q2
      split at q2
      · rename_i n
        obtain ⟨a, rfl, hm⟩ := rv2
        split at q2
        · rename_i C fs ds hn
          split at q2
          · rename_i hfl
            obtain ⟨c1, c2, c3⟩ := hc C hfl.1
            obtain ⟨dx, vs, hq, l, b, rr⟩ := r2.obj n _ a hn hm
            have xw : Ext μ2 H2 μ2 (upd H2 a (.ins (F.ca C) dx (putF (F.nm f) v ((fs.map F.nm).zip vs)))) := Ext.wr (List.mem_of_getElem? hm)
            obtain ⟨vs', k1, k2, k3, k4⟩ := putD_rep c3 (rv.mono x2) rr l b
            refine ⟨a, _, dx, _, rfl, hq, c1, c2, ?_, ?_⟩
            · rw [List.length_zip, List.length_map, rr.length, ← l, Nat.min_self]; exact hfl.2
            · refine q2 μ2 _ σ xw (r2.wr hm ⟨dx, vs', by rw [k1]; exact upd_same, k3, k4, ?_⟩) (e2.mono xw)
              exact k2.mono xw
          · exact q2.elim
        · exact q2.elim
      · exact q2.elim⟩⟩
theorem sS_aug {i : Nat} {x : Str} {e : Expr} {op : Operator} {f : Env' → List O → R D} {p pos : Pos} (hN : X.N.Nodup) (hi' : X.N[i]? = some x) (hx : Loc X.env.scope x) (he : PE X e (tE F W hi f)) (hf : X.fn x = true ∨ X.env.scope.names.lookup x = some .local) (hop : op = .Add ∨ op = .Sub) (hs : ∀ q, hi = some q → ∀ j, q.i = some j → j ≠ i) :
    PS X (.AugAssign (.Name x p) op e pos) (tS F W hi fun ρ S => match ρ[i]? with
      | some (some (.int a)) => (f ρ S).fl ρ fun d S => (match augD op a d with
        | some c => .nx (ρ.set i (some (.int c))) S
        | none => .bad)
      | _ => .bad) := by
  have key : ∀ {g : Int → Int → Int}, PIp X op (ipI g) → (∀ a d c, augD op a d = some c → ∃ b, d = .int b ∧ c = g a b) → PS X (.AugAssign (.Name x p) op e pos) (tS F W hi fun ρ S => match ρ[i]? with
      | some (some (.int a)) => (f ρ S).fl ρ fun d S => (match augD op a d with
        | some c => .nx (ρ.set i (some (.int c))) S
        | none => .bad)
      | _ => .bad) := by
    intro g hg hgo
    refine PS.imp (ps_aug hN hi' hx he hg hf) ?_
    intro En σ H ⟨ρ, μ, S, e, rel, q⟩
    have q' : SatF F hi W En μ H (match ρ[i]? with
      | some (some (.int a)) => (f ρ S).fl ρ fun d S => (match augD op a d with
        | some c => .nx (ρ.set i (some (.int c))) S
        | none => .bad)
      | _ => .bad) := q
    split at q'
    · rename_i a ha
      obtain ⟨v, hv, rv⟩ := e.1.2 i _ ha
      cases rep_int rv
      refine ⟨_, hv, ρ, μ, S, e, rel, (SatF.fl e q').imp fun d μ1 S1 H1 x1 r1 q1 v rv => ?_⟩
      cases hc : augD op a d with
      | none => rw [hc] at q1; exact q1.elim
      | some c =>
        rw [hc] at q1
        obtain ⟨b, rfl, rfl⟩ := hgo a d c hc
        cases rep_int rv
        refine ⟨a, b, rfl, rfl, ?_⟩
        have gg : tgG F.K (.nm i) (.int (g a b)) σ H1 En.nx := EnvR.asT (t := .nm i) (d := .int (g a b)) (e.mono x1) rfl rfl (fun q hq j hj m => hs q hq j hj (by simpa [tSl] using m)) fun σ' e' => SatF.nx q1 r1 e'
        exact gg
    · exact q'.elim
  rcases hop with rfl | rfl
  · exact key ip_add fun a d c h => by
      cases d <;> first | (cases h; done) | (cases h; exact ⟨_, rfl, rfl⟩)
  · exact key ip_sub fun a d c h => by
      cases d <;> first | (cases h; done) | (cases h; exact ⟨_, rfl, rfl⟩)
theorem sS_ife {c : Expr} {a b : List Stmt} {h : Env' → List O → R Bool} {f g : Env' → List O → Fl} {pos : Pos} (hc : PT X c (tT F W hi h)) (ha : PSs X a (tS F W hi f)) (hb : PSs X b (tS F W hi g)) :
    PS X (.If c a b pos) (tS F W hi fun ρ S => (h ρ S).fl ρ fun k S => if k = true then f ρ S else g ρ S) :=
  PS.imp (ps_if hc ha hb) fun D σ H ⟨ρ, μ, S, e, rel, q⟩ => ⟨ρ, μ, S, e, rel, (SatF.fl e q).imp fun k μ1 S1 H1 x1 r1 q1 => by
    by_cases hk : k = true
    · rw [if_pos hk] at q1 ⊢; exact ⟨ρ, μ1, S1, e.mono x1, r1, q1⟩
    · rw [if_neg hk] at q1 ⊢; exact ⟨ρ, μ1, S1, e.mono x1, r1, q1⟩⟩
theorem whC_some {c : Env' → List O → R Bool} {b : Env' → List O → Fl} {ρ : Env'} {S : List O} (h : whC c b ρ S ≠ .bad) : ∃ n, whF c b n ρ S = some (whC c b ρ S) := by
  unfold whC at h ⊢
  split at h
  · rename_i hx
    rw [dif_pos hx]
    exact ⟨_, Classical.choose_spec (Classical.choose_spec hx)⟩
  · exact (h rfl).elim
theorem sS_wh {c : Expr} {b : List Stmt} {h : Env' → List O → R Bool} {f : Env' → List O → Fl} {pos : Pos} (hp : PassesOwn (model X.prog X.w) X.A X.env X.xe) (hc : PT X c (tT F W hi h)) (hb : PSs X b (tS F W hi f)) :
    PS X (.While c b [] pos) (tS F W hi fun ρ S => whC h f ρ S) := by
  refine PS.imp (ps_while hp hc hb) ?_
  intro D σ H ⟨ρ, μ, S, e, rel, q⟩
  have hne : whC h f ρ S ≠ .bad := fun z => by
    have q' : SatF F hi W D μ H (whC h f ρ S) := q
    rw [z] at q'; exact q'
  obtain ⟨n, hn⟩ := whC_some hne
  have q' : SatF F hi W D μ H (whC h f ρ S) := q
  generalize whC h f ρ S = fl at hn q'
  refine ⟨fun m σ H => ∃ ρ μ S, EnvR F hi μ H ρ σ ∧ Rel F μ S H ∧ whF h f m ρ S = some fl ∧ SatF F hi W D μ H fl, ⟨n, ρ, μ, S, e, rel, hn, q'⟩, ?_⟩
  rintro m σ1 H1 ⟨ρ1, μ1, S1, e1, r1, w1, s1⟩
  cases m with
  | zero => cases w1
  | succ m =>
    unfold whF at w1
    refine ⟨ρ1, μ1, S1, e1, r1, ?_⟩
    cases hh : h ρ1 S1 with
    | bad => rw [hh] at w1; cases w1; exact s1.elim
    | ex y S2 =>
      rw [hh] at w1
      cases w1
      exact fun μ' H' cls d x r z => s1 μ' H' σ1 cls d x r (e1.mono x) z
    | ok k S2 =>
      rw [hh] at w1
      intro μ2 H2 x2 r2
      dsimp only
      cases k with
      | false =>
        rw [if_neg (by decide)]
        cases w1
        exact s1 μ2 H2 σ1 x2 r2 (e1.mono x2)
      | true =>
        rw [if_pos rfl]
        refine ⟨fun σ' H' => ∃ ρ μ S, EnvR F hi μ H' ρ σ' ∧ Rel F μ S H' ∧ whF h f m ρ S = some fl ∧ SatF F hi W D μ H' fl, fun σ' H' z => ⟨m, Nat.lt_succ_self m, z⟩, ρ1, μ2, S2, e1.mono x2, r2, ?_⟩
        cases hf : f ρ1 S2 with
        | bad =>
          have w2 : (match f ρ1 S2 with
            | .nx ρ' S'' => whF h f m ρ' S''
            | g => some g) = some fl := w1
          rw [hf] at w2; cases w2; exact s1.elim
        | ex y ρ3 S3 =>
          have w2 : (match f ρ1 S2 with
            | .nx ρ' S'' => whF h f m ρ' S''
            | g => some g) = some fl := w1
          rw [hf] at w2; cases w2
          exact s1.mono x2
        | rt d S3 =>
          have w2 : (match f ρ1 S2 with
            | .nx ρ' S'' => whF h f m ρ' S''
            | g => some g) = some fl := w1
          rw [hf] at w2; cases w2
          exact s1.mono x2
        | nx ρ3 S3 =>
          have w2 : (match f ρ1 S2 with
            | .nx ρ' S'' => whF h f m ρ' S''
            | g => some g) = some fl := w1
          rw [hf] at w2
          exact fun μ3 H3 σ3 x3 r3 e3 => ⟨ρ3, μ3, S3, e3, r3, w2, s1.mono (x2.trans x3)⟩
theorem sS_fr {tg iter : Expr} {b : List Stmt} {t : T} {g : Env' → List O → R Src} {f : Env' → List O → Fl} {pos : Pos} (hk : F.K = X.K) (hp : PassesOwn (model X.prog X.w) X.A X.env X.xe) (hc : X.calm = true) (hI : PI X tg iter (tI F W none g)) (hg : PG X tg (tgG X.K t)) (hb : PSs X b (tS F W none f))
    (hs : ∀ x, foldedSetIterable iter X.env x = pure x) :
    PS X (.For tg iter b [] pos) (tS F W none fun ρ S => (g ρ S).fl ρ fun s S => frGo s.gd t f s.its ρ S) := by
  refine PS.imp (ps_for hp hc hI hg hb hs) ?_
  intro D σ H ⟨ρ, μ, S, e, rel, q⟩
  refine ⟨ρ, μ, S, e, rel, (SatF.fl e q).imp fun s μ1 S1 H1 x1 r1 q1 J hJ => ?_⟩
  generalize hfl : frGo s.gd t f s.its ρ S1 = fl at q1
  refine ⟨fun i m σ H => m = s.its.length - i ∧ i ≤ s.its.length ∧ ∃ ρi μi Si, Ext μ1 H1 μi H ∧ EnvR F none μi H ρi σ ∧ Rel F μi Si H ∧ frGo s.gd t f (s.its.drop i) ρi Si = fl, ⟨_, rfl, Nat.zero_le _, ρ, μ1, S1, Ext.refl _ _, e.mono x1, r1, hfl⟩, ?_⟩
  rintro i m σ2 H2 ⟨rfl, hi', ρ2, μ2, S2, x2, e2, r2, f2⟩
  have q2 := q1.mono x2
  cases hd : s.its.drop i with
  | nil =>
    rw [hd] at f2
    unfold frGo at f2
    have hi' : i = s.its.length := by
      have := List.drop_eq_nil_iff.mp hd
      omega
    split at f2
    · rename_i hg
      subst f2
      exact .inl ⟨hi' ▸ (hJ μ2 _ H2 x2 r2 hg).1, SatF.nx q2 r2 e2⟩
    · subst f2; exact q2.elim
  | cons d ds =>
    rw [hd] at f2
    unfold frGo at f2
    obtain ⟨hget, hdr, hlt⟩ := drop_cons hd
    split at f2
    · rename_i hg
      obtain ⟨hgo, hy⟩ := (hJ μ2 _ H2 x2 r2 hg).2 i d hget
      refine .inr ⟨hgo, fun σ' H' => ∃ ρi μi Si, Ext μ1 H1 μi H' ∧ EnvR F none μi H' ρi σ' ∧ Rel F μi Si H' ∧ frGo s.gd t f ds ρi Si = fl, fun σ' H' ⟨ρi, μi, Si, a1, a2, a3, a4⟩ => ⟨s.its.length - (i + 1), by omega, rfl, hlt, ρi, μi, Si, a1, a2, a3, by rw [hdr]; exact a4⟩, fun x H3 hyl => ?_⟩
      obtain ⟨x3, r3, rd⟩ := hy x H3 hyl
      cases ha : asT t d ρ2 with
      | none => rw [ha] at f2; subst f2; exact q2.elim
      | some ρ3 =>
        rw [ha] at f2
        rw [← hk]
        refine EnvR.asT (e2.mono x3) rd ha (fun q hq => nomatch hq) fun σ4 e4 => ⟨ρ3, μ2, S2, e4, r3, ?_⟩
        have f3 : (f ρ3 S2).bind (fun ρ'' S' => frGo s.gd t f ds ρ'' S') = fl := f2
        have q3 := q2.mono x3
        cases hf : f ρ3 S2 with
        | nx ρ5 S5 =>
          rw [hf] at f3
          exact fun μ5 H5 σ5 x5 r5 e5 => ⟨ρ5, μ5, S5, (x2.trans x3).trans x5, e5, r5, f3⟩
        | rt d S5 => rw [hf] at f3; subst f3; exact q3
        | ex y ρ5 S5 => rw [hf] at f3; subst f3; exact q3
        | bad => rw [hf] at f3; subst f3; exact q3
    · subst f2; exact q2.elim
end
end Ev
end
section
set_option Elab.async false
set_option linter.all false
set_option maxRecDepth 100000
set_option maxHeartbeats 4000000
set_option autoImplicit false
/-! Ev, part L: raise, try. -/
namespace Ev
open PySem PySem.Spec PyProof.Rows L2

section
variable {F : Fx} {μ : Mu} {H H' : Hp}
theorem Ext.sup (h : ∀ b o, H b = some o → H' b = some o) : Ext μ H μ H' := ⟨⟨[], by simp⟩, fun a o m e => ⟨h a o e, m⟩⟩
theorem Rel.sup {S : List O} (r : Rel F μ S H) (h : ∀ b o, H b = some o → H' b = some o) : Rel F μ S H' :=
  ⟨r.len, r.nd, fun n o a e1 e2 => by
    have q := r.obj n o a e1 e2
    obtain ⟨u, hu⟩ := q.some
    exact q.to (Ext.sup h) (by rw [hu]; exact h a u hu)⟩
end
section
variable {X : Cx} {F : Fx} {W : WX} {hi : Option Hi}
/-- raise C(), C without an own __init__ -/
theorem sS_rse0 {C : Nat} {fs : List Nat} {bmB : List Value} {B newId initId : String} {x : Str} {p p2 pos : Pos} (hc : X.calm = true) (tk : Takes X W) (Fb : ExcBaseFacts B newId initId bmB) (q : PySem.W.excIn X.K (F.ca C) bmB newId = true) (gC : X.mg x = some (.ref (F.ca C)))
    (kC : PySem.W.keepIn X.K (.ref (F.ca C)) = true) (r : Raises X (.ref (F.ca C))) (hg : Gl X x) (hdb : (x == ("__debug__" : Str)) = false) (hfs : fs = []) :
    PS X (.Raise (some (.Call (.Name x p) [] [] p2)) none pos) (tS F W hi fun ρ S => (R.ok [] S).fl ρ fun ds S => if ds.length = fs.length then .ex ⟨C, fs, ds⟩ ρ S else .bad) := by
  subst hfs
  refine PS.imp (ps_raise hc tk (pmk_own0 Fb q gC kC r hg hdb)) ?_
  intro En σ H ⟨ρ, μ, S, e, rel, q⟩
  exact q μ H σ _ none (Ext.refl _ _) rel e ⟨rfl, .inl ⟨rfl, rfl, rfl⟩⟩
/-- self.f = p: an own exception's __init__ -/
def spI1 (K : PySem.W.Frag) (f : Str) : Sp := fun vs H Q E => ∃ (a C : Addr) (y : V), vs = [.ref a, y] ∧ H a = some (exo a C none) ∧ OexC K C ∧ PySem.W.findIn K (.ref C) f = some none ∧
  ∀ dx, H dx = none → dx ≠ a → Q .non (upd (upd H dx (exd dx [(f, y)])) a (exo a C (some dx)))
theorem init1 {P : Program} {w : World} {K : PySem.W.Frag} {mg : Str → Option Value} {base : Heap} {x qual f sn pn : Str} {params : Arguments} {scope : Scope} {dvs : List V} {kws : List (Str × V)} {fa : Addr} {fd : FuncData} {p1 p2 p3 pos : Pos}
    (Fd : FunD K x qual params [.Assign [.Attribute (.Name sn p1) f p2] (.Name pn p3) pos] scope dvs kws fa fd) (S : FnScope [sn, pn] [sn, pn] scope) (h1 : (sn == ("__debug__" : Str)) = false) (h2 : (sn == ("__classdict__" : Str)) = false) (h3 : (pn == ("__debug__" : Str)) = false) (h4 : (pn == ("__classdict__" : Str)) = false) :
    FnOk P w K mg base (L2.CX P w) 1 fa fd [sn, pn] (spI1 K f) := by
  refine Fd.ok S (fun vs H Q E ⟨a, C, y, e, _⟩ => by rw [e]; rfl) fun cdv A outer s H vs Q E hr h => ?_
  obtain ⟨a, C, y, e, ha, hC, hf, hq⟩ := h
  have v1 : Vis scope sn := by rcases S.par sn (by simp) with z | z; exact .inl z; exact .inr (.inl z)
  have v2 : Vis scope pn := by rcases S.par pn (by simp) with z | z; exact .inl z; exact .inr (.inl z)
  refine ⟨_, pss_one (ps_ost (pe_var (i := 0) (by rfl) v1 h1 h2) (pe_var (i := 1) (by rfl) v2 h3 h4) (by rfl)), ?_⟩
  subst e
  exact ⟨y, rfl, .ref a, rfl, a, C, rfl, hC, hf, .inl ⟨ha, fun dx n ne => hq dx n ne⟩⟩
/-- raise C(e) -/
theorem sS_rse1 {C f : Nat} {fn : Str} {fs : List Nat} {fI : Addr} {fd : FuncData} {sn pn x : Str} {k : Nat} {e : Expr} {g : Env' → List O → R D} {p p2 pos : Pos} (hc : X.calm = true) (tk : Takes X W) (T : OexC X.K (F.ca C)) (iC : PySem.W.findIn X.K (.ref (F.ca C)) "__init__" = some (some (.ref fI)))
    (tI : PySem.W.typeIn X.K (.ref fI) = some (.type "function")) (F1 : FnOk X.prog X.w X.K X.mg X.base (L2.CX X.prog X.w) 1 fI fd [sn, pn] (spI1 X.K fn)) (hr : Room (k + 3) X.A) (hb : Binds X.K fd [sn, pn] []) (hg : Gl X x) (hm : X.mg x = some (.ref (F.ca C)))
    (he : PE X e (tE F W hi g)) (hdb : (x == ("__debug__" : Str)) = false) (hp : plainA e = true) (hfs : fs = [f]) (hfn : F.nm f = fn) (hf : f < F.an.length) (hno : PySem.W.findIn X.K (.ref (F.ca C)) fn = some none) :
    PS X (.Raise (some (.Call (.Name x p) [e] [] p2)) none pos) (tS F W hi fun ρ S => (((g ρ S).bind fun d S => (R.ok [] S).bind fun ds S => R.ok (d :: ds) S)).fl ρ fun ds S => if ds.length = fs.length then .ex ⟨C, fs, ds⟩ ρ S else .bad) := by
  subst hfs
  have ha : PA X [e] (tCons (tE F W hi g) tNil) := pa_cons he pa_nil (star_is hp)
  refine PS.imp (ps_raise hc tk (pmk_oex T iC tI F1 (hr.mono (by omega)) hb .nil passL hg hm ha hdb (star_is hp) (by rfl))) ?_
  intro En σ H ⟨ρ, μ, S, e, rel, q⟩
  have q' : SatF F hi W En μ H ((g ρ S).fl ρ fun d S => .ex ⟨C, [f], [d]⟩ ρ S) := by
    have e3 : ((((g ρ S).bind fun d S => (R.ok [] S).bind fun ds S => R.ok (d :: ds) S)).fl ρ fun ds S => if ds.length = [f].length then Fl.ex ⟨C, [f], ds⟩ ρ S else .bad) = ((g ρ S).fl ρ fun d S => .ex ⟨C, [f], [d]⟩ ρ S) := by
      cases g ρ S <;> rfl
    rw [← e3]; exact q
  refine ⟨ρ, μ, S, e, rel, (SatF.fl e q').imp fun d μ1 S1 H1 x1 r1 q1 v rv => ⟨by simp, fun a hn => ?_⟩⟩
  refine ⟨a, F.ca C, v, rfl, upd_same, T, hno, fun dx hdx hne => ?_⟩
  have hdx1 : H1 dx = none := by rw [upd_ne hne] at hdx; exact hdx
  refine ⟨rfl, dx, [(fn, v)], upd_same, by rw [upd_ne hne, upd_same], hdx1, ?_⟩
  have sup : ∀ b o, H1 b = some o → upd (del (upd (upd (upd H1 a (exo a (F.ca C) none)) dx (exd dx [(fn, v)])) a (exo a (F.ca C) (some dx))) a) dx (.xd [(fn, v)]) b = some o := fun b o hb => by
    have nb : b ≠ dx := ne_of_none hb hdx1
    have na : b ≠ a := ne_of_none hb hn
    rw [upd_ne nb, del_ne na, upd_ne na, upd_ne nb, upd_ne na]
    exact hb
  have xs : Ext μ1 H1 μ1 _ := Ext.sup sup
  refine q1 μ1 _ σ _ (some dx) xs (r1.sup sup) ((e.mono x1).mono xs) ⟨rfl, .inr ⟨dx, [(fn, v)], rfl, r1.fresh hdx1, upd_same, by simp, rfl, fun g hg => ?_, fun g d' hl => ?_⟩⟩
  · have : g = f := by simpa using hg
    rw [this]; exact hf
  · unfold lookF at hl
    split at hl
    · rename_i hg
      cases hl
      subst hg hfn
      exact ⟨v, by rw [List.lookup_cons, beq_self_eq_true], rv.mono xs⟩
    · unfold lookF at hl; cases hl

/-! ### try -/
inductive HsRel (K : PySem.W.Frag) (F : Fx) (t : Ct) (C : Orc) : Hs → List Hd → Prop
  | nil : HsRel K F t C .nil []
  | cons {T : TyC} {n : Option Nat} {b : Ss} {r : Hs} {c : Value} {l : List Hd} (hx : ∀ x v, xisB t x T = some v → PySem.W.exmOne K (.ref (F.ca x.c)) c = some v) (hr : HsRel K F t C r l) :
      HsRel K F t C (.cons T n b r) (⟨c, n, fun a cls d En σ H => ∃ x, tS F W0 (some ⟨a, cls, d, x, n⟩) (fun ρ S => evSs t C b (some x) ρ S) En σ H⟩ :: l)
theorem nox_sat {F : Fx} {h : Hi} {En : Ends} {μ : Mu} {H : Hp} {f : Fl} (hs : SatF F none W En μ H f.nox) : SatF F (some h) W0 En μ H f := by
  cases f with
  | nx ρ S => exact fun μ' H' σ' x r e => hs μ' H' σ' x r (EnvR.of e.1)
  | rt d S => exact hs
  | ex y ρ S => exact hs.elim
  | bad => exact hs
theorem hs_reads {K : PySem.W.Frag} {F : Fx} {t : Ct} {C : Orc} {En : Ends} {x : Exn} {cls : Value} {dd : Option Addr} {ρ : Env'} {σ : L2.St} {μ : Mu} {S : List O} {H : Hp} {hs : Hs} {l : List Hd} (hr : HsRel K F t C hs l)
    (rel : Rel F μ S H) (e : EnvR F none μ H ρ σ) (xr : XRep F μ H x cls dd) (h : SatF F none W En μ H (evHs t C hs x ρ S)) : wMix K W En l cls dd σ H := by
  induction hr with
  | nil => exact h μ H σ cls dd (Ext.refl _ _) rel e xr
  | @cons T n b r c l hx hr ih =>
    unfold evHs at h
    split at h
    · rename_i hb
      refine ⟨true, by rw [xr.1]; exact hx x true hb, fun _ a hn => ?_, fun z => (Bool.false_ne_true z.symm).elim⟩
      cases n with
      | none => exact ⟨x, ρ, μ, S, ⟨e.1, fun h' eh => by cases eh; exact ⟨xr, fun i z => nomatch z⟩⟩, rel, nox_sat h⟩
      | some i =>
        dsimp only at h
        split at h
        · rename_i hl
          have hl' : i < σ.length := by rw [← e.1.1]; exact hl
          refine ⟨x, ρ.set i none, μ, S, ⟨⟨by simp [e.1.1], fun j d hj => ?_⟩, fun h' eh => by
            cases eh
            refine ⟨xr, fun j ej => ?_⟩
            cases ej
            exact ⟨List.getElem?_set_self hl', List.getElem?_set_self hl⟩⟩, rel, nox_sat (W := W) ?_⟩
          · by_cases hij : i = j
            · subst hij; rw [List.getElem?_set_self hl] at hj; cases hj
            · rw [List.getElem?_set_ne hij] at hj ⊢
              exact e.1.2 j d hj
          · cases hf : (evSs t C b (some x) (ρ.set i none) S).nox with
            | nx ρ' S' =>
              rw [hf] at h
              refine fun μ' H' σ' x' r' e' => h μ' H' (σ'.set i none) x' r' (EnvR.of ⟨by simp [e'.1.1], fun j d hj => ?_⟩)
              by_cases hij : i = j
              · subst hij
                rw [List.getElem?_set_self'] at hj
                cases hw : (ρ' : List (Option D))[i]? with
                | none => rw [hw] at hj; cases hj
                | some z => rw [hw] at hj; cases hj
              · rw [List.getElem?_set_ne hij] at hj ⊢
                exact e'.1.2 j d hj
            | rt d S' => rw [hf] at h; exact h
            | ex y ρ' S' =>
              cases hg : evSs t C b (some x) (ρ.set i none) S <;> rw [hg] at hf <;> cases hf
            | bad => rw [hf] at h; exact h.elim
        · exact h.elim
    · rename_i hb
      exact ⟨false, by rw [xr.1]; exact hx x false hb, fun z => (Bool.false_ne_true z).elim, fun _ => ih h⟩
    · exact h.elim
theorem sS_tri {t : Ct} {C : Orc} {body : List Stmt} {h₀ : ExceptHandler} {hds : List ExceptHandler} {hs : Hs} {l : List Hd} {f : Env' → List O → Fl} {pos : Pos} (h1 : X.stack = X.env :: X.outer) (h2 : X.env.frame = some X.env.locals) (hN : X.N.Nodup) (tk : Takes X W)
    (hb : ∀ (W : WX) (pn : List (Addr × Obj)) (xe : Value → Shared → Prop), Takes (X.tr pn xe) W → PassesOwn (model X.prog X.w) X.A X.env xe → PSs (X.tr pn xe) body (tS F W none f))
    (hh : HdsMix X (h₀ :: hds) l) (hr : HsRel X.K F t C hs l) :
    PS X (.Try body (h₀ :: hds) [] [] pos) (tS F W none fun ρ S => match f ρ S with
      | .ex x ρ' S' => evHs t C hs x ρ' S'
      | g => g) := by
  refine PS.imp (ps_try_mix (tb := fun W => tS F W none f) h1 h2 hN tk hb hh) ?_
  intro En σ H ⟨ρ, μ, S, e, rel, q⟩
  refine ⟨ρ, μ, S, e, rel, ?_⟩
  have q' : SatF F none W En μ H (match f ρ S with
      | .ex x ρ' S' => evHs t C hs x ρ' S'
      | g => g) := q
  cases hf : f ρ S with
  | nx ρ' S' => rw [hf] at q'; exact q'
  | rt d S' => rw [hf] at q'; exact q'
  | bad => rw [hf] at q'; exact q'
  | ex x ρ' S' =>
    rw [hf] at q'
    exact fun μ' H' σ' cls dd x1 r1 e1 xr => hs_reads hr r1 e1 xr (q'.mono x1)
end
end Ev
end
section
set_option Elab.async false
set_option linter.all false
set_option maxRecDepth 100000
set_option maxHeartbeats 4000000
set_option autoImplicit false
/-! Ev, part M: the checker of expressions, and that what it passes is as the evaluator says. -/
namespace Ev
open PySem PySem.Spec PyProof.Rows L2

/-- the names: of defs, of constants, of classes, of attributes -/
structure Tb where
  fn : List Str
  gl : List Str
  cl : List Str
  an : List Str
/-- where an expression stands -/
structure Sc where
  N : List Str
  sc : Scope
  fn : Str → Bool
  cm : Bool
  hv : Option Nat
def Sc.blk (c : Sc) (s : Scope) : Sc := { N := c.N, sc := relS s c.sc, fn := fun x => s.names.lookup x == some .cell, cm := true, hv := none }
def visB (sc : Scope) (x : Str) : Bool := match sc.names.lookup x with
  | some .local => true
  | some .cell => true
  | some .free => true
  | _ => false
def glB (sc : Scope) (x : Str) : Bool := match sc.names.lookup x with
  | some .globalImplicit => true
  | _ => false
def dbB (x : Str) : Bool := !(x == ("__debug__" : Str)) && !(x == ("__classdict__" : Str))
def bltN : List Str := ["len", "abs", "int", "tuple", "list", "all", "any", "sum", "max", "min", "str", "isinstance", "range", "zip", "enumerate", "bool", "dict", "ValueError", "sorted"]
def bltB (c : Sc) (x : Str) : Bool := glB c.sc x && bltN.contains x
def varB (c : Sc) (i : Nat) (x : Str) : Bool := decide (c.N[i]? = some x) && visB c.sc x && dbB x
def BI.nm : BI → Str
  | .len => "len"
  | .abs => "abs"
  | .int => "int"
  | .tuple => "tuple"
  | .list => "list"
  | .all => "all"
  | .any => "any"
  | .sum => "sum"
  | .max => "max"
  | .min => "min"
  | .str => "str"
  | .sorted => "sorted"
  | _ => ""
def BI.ok : BI → Bool
  | .len | .abs | .int | .tuple | .list | .all | .any | .sum | .max | .min | .str | .sorted => true
  | _ => false
/-- names a class -/
def clsB (tb : Tb) (ok : Nat → Bool) (c : Sc) (T : TyC) (e : Expr) : Bool := match e with
  | .Name x _ => (match T with
    | .int => decide (x = "int") && glB c.sc x
    | .bool => decide (x = "bool") && glB c.sc x
    | .str => decide (x = "str") && glB c.sc x
    | .list => decide (x = "list") && glB c.sc x
    | .tuple => decide (x = "tuple") && glB c.sc x
    | .dict => decide (x = "dict") && glB c.sc x
    | .value => decide (x = "ValueError") && glB c.sc x
    | .own k => decide (tb.cl[k]? = some x) && glB c.sc x && dbB x && ok k)
  | _ => false
def clssB (tb : Tb) (ok : Nat → Bool) (c : Sc) : List TyC → List Expr → Bool
  | [], [] => true
  | T :: Ts, e :: es => clsB tb ok c T e && clssB tb ok c Ts es
  | _, _ => false
def notSet : Expr → Bool
  | .Set .. => false
  | _ => true
theorem notSet_is {e : Expr} {env : Env} (h : notSet e = true) (x : Value) : foldedSetIterable e env x = pure x := by
  cases e <;> first | exact (Bool.false_ne_true h).elim | rfl
def ownOf (c : Sc) (vs : List Nat) : List (Str × Nat) := vs.map fun i => (c.N.getD i "", i)

section
variable (tb : Tb) (t : Ct)
mutual
def okT (c : Sc) : T → Expr → Bool
  | .nm i, e => (match e with
    | .Name x _ => decide (c.N[i]? = some x) && (match c.sc.names.lookup x with
      | some .local => true
      | some .cell => c.fn x
      | _ => false)
    | _ => false)
  | .tup ts, e => (match e with
    | .Tuple es _ _ => c.cm && es.all plainA && okTs c ts es
    | _ => false)
def okTs (c : Sc) : Ts → List Expr → Bool
  | .nil, es => es.isEmpty
  | .cons t r, es => (match es with
    | e :: es => okT c t e && okTs c r es
    | [] => false)
end
mutual
def okE : E → Sc → Expr → Bool
  | .non, c, e => (match e with
    | .Constant .none _ _ => true
    | _ => false)
  | .bl b, c, e => (match e with
    | .Constant (.bool b') _ _ => b == b'
    | _ => false)
  | .int i, c, e => (match e with
    | .Constant (.int j) _ _ => decide (i = j)
    | _ => false)
  | .str cs, c, e => (match e with
    | .Constant (.str x) _ _ => decide (x = mkS cs)
    | _ => false)
  | .var i, c, e => (match e with
    | .Name x _ => varB c i x
    | _ => false)
  | .glb g, c, e => (match e with
    | .Name x _ => decide (tb.gl[g]? = some x) && glB c.sc x && dbB x
    | _ => false)
  | .bin o a b, c, e => (match e with
    | .BinOp x o' y _ => decide (o = o') && okE a c x && okE b c y
    | _ => false)
  | .neg a, c, e => (match e with
    | .UnaryOp .USub x _ => okE a c x
    | _ => false)
  | .nt a, c, e => (match e with
    | .UnaryOp .Not x _ => tsB x && okE a c x
    | _ => false)
  | .and a b, c, e => (match e with
    | .BoolOp .And (x :: y :: r) p => tsB x && okE a c x && (match r with
      | [] => tsB y && okE b c y
      | _ :: _ => okE b c (.BoolOp .And (y :: r) p))
    | _ => false)
  | .or a b, c, e => (match e with
    | .BoolOp .Or (x :: y :: r) p => tsB x && okE a c x && (match r with
      | [] => tsB y && okE b c y
      | _ :: _ => okE b c (.BoolOp .Or (y :: r) p))
    | _ => false)
  | .cmp o a b, c, e => (match e with
    | .Compare x [o'] [y] _ => decide (o = o') && !behindInMarks o y && okE a c x && okE b c y
    | _ => false)
  | .chain o1 o2 a b d, c, e => (match e with
    | .Compare x [p1, p2] [y, z] _ => decide (o1 = p1) && decide (o2 = p2) && !lastMarks [o1, o2] [y, z] && okE a c x && okE b c y && okE d c z
    | _ => false)
  | .ite k a b, c, e => (match e with
    | .IfExp x y z _ => tsB x && okE k c x && okE a c y && okE b c z
    | _ => false)
  | .tup es, c, e => (match e with
    | .Tuple xs _ _ => okEs es c xs
    | _ => false)
  | .lst es, c, e => (match e with
    | .List xs _ => okEs es c xs
    | _ => false)
  | .emp k, c, e => (match e with
    | .Dict [] [] _ => true
    | _ => false)
  | .flst es, c, e => (match e with
    | .List xs _ => okEs es c xs
    | _ => false)
  | .femp k, c, e => (match e with
    | .Dict [] [] _ => true
    | _ => false)
  | .idx a i, c, e => (match e with
    | .Subscript x y _ => plainI y && okE a c x && okE i c y
    | _ => false)
  | .slc a lo hi, c, e => (match e with
    | .Subscript x (.Slice l u none _) _ => okE a c x && okO lo c l && okO hi c u
    | _ => false)
  | .attr a f, c, e => (match e with
    | .Attribute x fn _ => decide (tb.an[f]? = some fn) && plainB x && okE a c x
    | _ => false)
  | .call f es, c, e => (match e with
    | .Call (.Name x _) (y :: ys) [] _ => c.cm && glB c.sc x && decide (tb.fn[f]? = some x) && dbB x && okEs es c (y :: ys)
    | _ => false)
  | .make k es, c, e => (match e with
    | .Call (.Name x _) (y :: ys) [] _ => c.cm && glB c.sc x && decide (tb.cl[k]? = some x) && dbB x && (t.ini k).isSome && okEs es c (y :: ys)
    | _ => false)
  | .bi b es, c, e => (match e with
    | .Call (.Name x _) (y :: ys) [] _ => b.ok && c.cm && glB c.sc x && decide (b.nm = x) && okEs es c (y :: ys)
    | _ => false)
  | .meth m o es, c, e => (match e with
    | .Call (.Attribute x nm ap) ys [] cp => decide (m.nm = nm) && decide (m ≠ .tindex) && plainB x && okE o c x && (ap.endLine == cp.line) && decide (ys.length < 30) && okEs es c ys
    | _ => false)
  | .omth m o es, c, e => (match e with
    | .Call (.Attribute x nm ap) ys [] cp => c.cm && decide (tb.an[m]? = some nm) && plainB x && okE o c x && (ap.endLine == cp.line) && decide (ys.length < 30) && okEs es c ys
    | _ => false)
  | .oeq m a b, c, e => (match e with
    | .Compare x [.Eq] [y] _ => c.cm && decide (tb.an[m]? = some ("__eq__" : Str)) && !behindInMarks .Eq y && okE a c x && okE b c y
    | _ => false)
  | .mulL z a b, c, e => (match e with
    | .BinOp x .Mult y _ => okE a c x && okE b c y
    | _ => false)
  | .lrng k a, c, e => (match e with
    | .Call (.Name x _) [.Call (.Name r _) [y] [] _] [] _ => c.cm && decide (x = if k = 2 then "tuple" else "list") && glB c.sc x && decide (r = "range") && glB c.sc r && plainA y && okE a c y
    | _ => false)
  | .lrng2 k a b, c, e => (match e with
    | .Call (.Name x _) [.Call (.Name r _) [y, w] [] _] [] _ => c.cm && decide (x = if k = 2 then "tuple" else "list") && glB c.sc x && decide (r = "range") && glB c.sc r && plainA y && plainA w && okE a c y && okE b c w
    | _ => false)
  | .isi a ts, c, e => (match e with
    | .Call (.Name x _) [y, ce] [] _ => decide (x = "isinstance") && glB c.sc x && plainA y && okE a c y && (match ce with
      | .Tuple ces _ _ => decide (ts ≠ []) && decide (ts.length ≤ 100) && clssB tb t.icl c ts ces
      | _ => (match ts with
        | [T] => clsB tb t.icl c T ce
        | _ => false))
    | _ => false)
  | .xf f, c, e => (match e with
    | .Attribute (.Name x _) fn _ => (match c.hv with
      | some i => varB c i x && decide (tb.an[f]? = some fn)
      | none => false)
    | _ => false)
  | .xis T, c, e => (match e with
    | .Call (.Name x _) [.Name y _, ce] [] _ => (match c.hv with
      | some i => decide (x = "isinstance") && glB c.sc x && varB c i y && clsB tb t.exc c T ce
      | none => false)
    | _ => false)
  | .lc elt tg it cd vs, c, e => (match e with
    | .ListComp x [⟨g, iter, ifs, 0⟩] s _ => c.cm && notSet iter && blkC c.N c.sc s (ownOf c vs) && (tSl tg).all vs.contains && okI it c g iter && okT (c.blk s) tg g && okC cd (c.blk s) ifs && okE elt (c.blk s) x
    | _ => false)
  | .lc2 elt tg it tg1 it1 vs vs1, c, e => (match e with
    | .ListComp x [⟨g, iter, [], 0⟩, ⟨g1, iter1, [], 0⟩] s _ => c.cm && notSet iter && notSet iter1 && blkC c.N c.sc s (ownOf c vs) && (tSl tg).all vs.contains && (tSl tg1).all vs1.contains && vs1.all vs.contains && okI it c g iter && okT (c.blk s) tg g && okI it1 (c.blk s) g1 iter1 && okT (c.blk s) tg1 g1 && okE elt (c.blk s) x
    | _ => false)
  | .frz a, c, e => plainT e && okE a c e
def okEs : Es → Sc → List Expr → Bool
  | .nil, c, es => es.isEmpty
  | .cons a r, c, es => (match es with
    | e :: es => plainA e && okE a c e && okEs r c es
    | [] => false)
def okO : OE → Sc → Option Expr → Bool
  | .no, c, e => (match e with
    | none => true
    | _ => false)
  | .yes a, c, e => (match e with
    | some e => okE a c e
    | none => false)
def okC : OE → Sc → List Expr → Bool
  | .no, c, es => es.isEmpty
  | .yes a, c, es => (match es with
    | [e] => tsB e && okE a c e
    | _ => false)
def okI : I → Sc → Expr → Expr → Bool
  | .of a, c, g, e => okE a c e
  | .rng a, c, g, e => (match e with
    | .Call (.Name x _) [y] [] _ => decide (x = "range") && glB c.sc x && plainA y && okE a c y
    | _ => false)
  | .rng2 a b, c, g, e => (match e with
    | .Call (.Name x _) [y, z] [] _ => decide (x = "range") && glB c.sc x && plainA y && plainA z && okE a c y && okE b c z
    | _ => false)
  | .zip a b, c, g, e => (match g, e with
    | .Tuple _ _ _, .Call (.Name x _) [y, z] [] _ => decide (x = "zip") && glB c.sc x && plainA y && plainA z && okE a c y && okE b c z
    | _, _ => false)
  | .enm a, c, g, e => (match g, e with
    | .Tuple _ _ _, .Call (.Name x _) [y] [] _ => decide (x = "enumerate") && glB c.sc x && plainA y && okE a c y
    | _, _ => false)
end
end
end Ev
end
section
set_option Elab.async false
set_option linter.all false
set_option maxRecDepth 100000
set_option maxHeartbeats 4000000
set_option autoImplicit false
/-! Ev, part N: what the checker passes is as the evaluator says: expressions. -/
namespace Ev
open PySem PySem.Spec PyProof.Rows L2

structure Gx where
  F : Fx
  t : Ct
  C : Orc
  k : Nat
  P : Program
  w : World
  mg : Str → Option Value
  base : Heap
  tb : Tb
/-- a def, called by its own name -/
structure FnA (G : Gx) (f : Nat) (fa : Addr) : Prop where
  kp : PySem.W.keepIn G.F.K (.ref fa) = true
  ex : ∃ (fd : FuncData) (ps : List Str) (n : Nat), Binds G.F.K fd ps [] ∧ FnOk G.P G.w G.F.K G.mg G.base (L2.CX G.P G.w) (2 * G.k + 3) fa fd ps (spD G.F n (G.C f)) ∧ ∀ ds S, G.C f ds S ≠ .bad → ds.length = n
/-- what is known of the law's program -/
structure Gk (K : PySem.W.Frag) (F : Fx) (t : Ct) (tb : Tb) (mg : Str → Option Value) : Prop where
  hK : F.K = K
  an : F.an = tb.an
  blt : ∀ x ∈ bltN, mg x = none
  glv : ∀ g x, tb.gl[g]? = some x → ∃ v u, mg x = some u ∧ RelV v u ∧ ∀ μ H, Rep F μ H (t.glb g) v
  clv : ∀ c x, tb.cl[c]? = some x → mg x = some (.ref (F.ca c))
  fld : ∀ C f, t.fld C f = true → Cls K (F.ca C) ∧ NoAttr K (F.ca C) (F.nm f) ∧ f < F.an.length
  icl : ∀ C, t.icl C = true → ClsF K (F.ca C)
  kitI : ∀ C c, t.icl C = true → t.icl c = true → PySem.W.kitOne K (.ref (F.ca C)) (.ref (F.ca c)) = some (t.sub C c)
  kitT : ∀ C T, t.icl C = true → T ∈ ["int", "bool", "str", "list", "tuple", "dict"] → PySem.W.kitOne K (.ref (F.ca C)) (.type T) = some false
  kitN : ∀ n c, t.icl c = true → n ∈ ["NoneType", "bool", "int", "str", "tuple", "list", "dict"] → PySem.W.kitOne K (.type n) (.ref (F.ca c)) = some false
  xfc : ∀ c f, (t.xfs c).contains f = true → XfC K (F.ca c) ∧ PySem.W.findIn K (.ref (F.ca c)) (F.nm f) = some none ∧ f < F.an.length
  xis : ∀ c, t.exc c = true → ExcC K (F.ca c)
  xkit : ∀ c d, t.exc c = true → t.exc d = true → PySem.W.kitOne K (.ref (F.ca c)) (.ref (F.ca d)) = some (t.sub c d) ∧ PySem.W.exmOne K (.ref (F.ca c)) (.ref (F.ca d)) = some (t.sub c d)
  eqo : ∀ c m f, F.nm m = "__eq__" → t.mth c m = some f → NotF K F t (F.ca c)
  xval : ∀ c, t.exc c = true → PySem.W.kitOne K (.ref (F.ca c)) (.type "ValueError") = some (t.val c) ∧ PySem.W.exmOne K (.ref (F.ca c)) (.type "ValueError") = some (t.val c)
/-- the defs: by their names, of the own classes -/
structure Fns (G : Gx) : Prop where
  fn : ∀ f x, G.tb.fn[f]? = some x → ∃ fa, G.mg x = some (.ref fa) ∧ FnA G f fa
  ini : ∀ c f, G.t.ini c = some f → ∃ fa, Mk G.F.K (G.F.ca c) fa ∧ FnA G f fa
  mth : ∀ c m f, G.t.mth c m = some f → m < G.F.an.length ∧ ∃ fa, Cls G.F.K (G.F.ca c) ∧ Meth G.F.K (G.F.ca c) (G.F.nm m) fa ∧ FnA G f fa
structure Cok (G : Gx) (c : Sc) (X : Cx) (W : WX) (hi : Option Hi) : Prop where
  prog : X.prog = G.P
  w : X.w = G.w
  K : X.K = G.F.K
  mg : X.mg = G.mg
  base : X.base = G.base
  N : X.N = c.N
  nd : c.N.Nodup
  sc : X.env.scope = c.sc
  fn : X.fn = c.fn
  un : X.A.units + 64 < cLine
  tk : Takes X W
  cm : c.cm = true → X.calm = true ∧ Room (2 * G.k + 4) X.A ∧ hi = none
  hv1 : hi = none → c.hv = none
  hv2 : ∀ h, hi = some h → h.i = c.hv
  hx : ∀ h, hi = some h → ∃ (X0 : Cx) (oe : Obj) (pn : List (Addr × Obj)), X = X0.suite h.a ((h.a, oe) :: pn) ∧ Zc h.cls h.d oe ∧ ∃ vs, oe.data = .fields vs

section
variable {G : Gx} {c : Sc} {X : Cx} {W : WX} {hi : Option Hi}
theorem Cok.hk (ok : Cok G c X W hi) : G.F.K = X.K := ok.K.symm
theorem Cok.gl (ok : Cok G c X W hi) {x : Str} (h : glB c.sc x = true) : Gl X x := by
  unfold glB at h
  show X.env.scope.names.lookup x = _
  rw [ok.sc]
  split at h
  · assumption
  · cases h
theorem Cok.vis (ok : Cok G c X W hi) {x : Str} (h : visB c.sc x = true) : Vis X.env.scope x := by
  unfold visB at h
  unfold Vis
  rw [ok.sc]
  split at h
  · rename_i e; exact .inl e
  · rename_i e; exact .inr (.inl e)
  · rename_i e; exact .inr (.inr e)
  · cases h
theorem Cok.hv (ok : Cok G c X W hi) (i : Nat) (h : c.hv = some i) : ∃ q, hi = some q ∧ q.i = some i := by
  cases hi with
  | none => rw [ok.hv1 rfl] at h; cases h
  | some q => exact ⟨q, rfl, (ok.hv2 q rfl).trans h⟩
theorem dbB_1 {x : Str} (h : dbB x = true) : (x == ("__debug__" : Str)) = false := by
  have := (Bool.and_eq_true_iff.mp h).1
  simpa using this
theorem dbB_2 {x : Str} (h : dbB x = true) : (x == ("__classdict__" : Str)) = false := by
  have := (Bool.and_eq_true_iff.mp h).2
  simpa using this
theorem Cok.var (ok : Cok G c X W hi) {i : Nat} {x : Str} (h : varB c i x = true) : X.N[i]? = some x ∧ Vis X.env.scope x ∧ (x == ("__debug__" : Str)) = false ∧ (x == ("__classdict__" : Str)) = false := by
  have h1 := Bool.and_eq_true_iff.mp h
  have h2 := Bool.and_eq_true_iff.mp h1.1
  exact ⟨by rw [ok.N]; exact of_decide_eq_true h2.1, ok.vis h2.2, dbB_1 h1.2, dbB_2 h1.2⟩
theorem Cok.blt (ok : Cok G c X W hi) (gk : Gk X.K G.F G.t G.tb G.mg) {x : Str} (h : x ∈ bltN) : X.mg x = none := by
  rw [ok.mg]; exact gk.blt x h
/-- a comprehension's block -/
theorem Cok.blk (ok : Cok G c X W none) (hc : c.cm = true) (s : Shared) (H : Hp) (scope : Scope) (cl : List (Str × Addr)) (C : Addr) (fp : List Addr) : Cok G (c.blk scope) (X.blk s H scope (compEnvC scope cl C X.env) fp) W0 none where
  prog := ok.prog
  w := ok.w
  K := ok.K
  mg := ok.mg
  base := ok.base
  N := ok.N
  nd := ok.nd
  sc := by
    show relabel scope X.env = relS scope c.sc
    rw [← ok.sc]; rfl
  fn := rfl
  un := ok.un
  tk := takes0
  cm := fun _ => ok.cm hc
  hv1 := fun _ => rfl
  hv2 := fun h e => nomatch e
  hx := fun h e => nomatch e
theorem an_of {F : Fx} {f : Nat} {x : Str} {an : List Str} (e : F.an = an) (h : an[f]? = some x) : F.nm f = x ∧ f < F.an.length := by
  subst e
  obtain ⟨h1, h2⟩ := List.getElem?_eq_some_iff.mp h
  exact ⟨by unfold Fx.nm; rw [getD_of h1]; exact h2, h1⟩
theorem Cok.mth (ok : Cok G c X W hi) (fns : Fns G) (m : Nat) : MthOk X G.F G.t G.C (2 * G.k + 3) m := fun c f hf => by
  obtain ⟨hml, fa, c1, c2, fnA⟩ := fns.mth c m f hf
  obtain ⟨fd, ps, n, hb, F1, hl⟩ := fnA.ex
  exact ⟨hml, fa, fd, ps, n, by rw [ok.K]; exact c1, by rw [ok.K]; exact c2, by rw [ok.K]; exact hb, by rw [ok.prog, ok.w, ok.mg, ok.base, ok.K]; exact F1, hl⟩
theorem kb (a b : String) {r : Bool} (h : kitB a b = some r) (K : PySem.W.Frag) : PySem.W.kitOne K (.type a) (.type b) = some r := kit_ty h
/-- a class of isinstance -/
theorem clsE_ty (gk : Gk X.K G.F G.t G.tb G.mg) {T : TyC} {s : String} (hT : ∀ n b, kitD G.t n T = some b → (∀ C, n = .ins C → G.t.icl C = true ∧ b = false)) (hm : s ∈ ["int", "bool", "str", "list", "tuple", "dict"])
    (hb : ∀ n b, (∀ C, n ≠ .ins C) → kitD G.t n T = some b → PySem.W.kitOne X.K (tnV G.F n) (.type s) = some b) : ∀ n b, kitD G.t n T = some b → PySem.W.kitOne X.K (tnV G.F n) (.type s) = some b := by
  intro n b h
  by_cases hn : ∃ C, n = .ins C
  · obtain ⟨C, rfl⟩ := hn
    obtain ⟨h1, rfl⟩ := hT _ b h C rfl
    exact gk.kitT C s h1 hm
  · exact hb n b (fun C e => hn ⟨C, e⟩) h
theorem ins_false {T : TyC} (h : ∀ k, T ≠ .own k) (h2 : T ≠ .value) : ∀ n b, kitD G.t n T = some b → (∀ C, n = .ins C → G.t.icl C = true ∧ b = false) := by
  intro n b hh C e
  subst e
  cases T with
  | own k => exact (h k rfl).elim
  | value => exact (h2 rfl).elim
  | _ =>
    simp only [kitD] at hh
    split at hh
    · rename_i z; cases hh; exact ⟨z, rfl⟩
    · cases hh
theorem Cok.clsE (ok : Cok G c X W hi) (gk : Gk X.K G.F G.t G.tb G.mg) {T : TyC} {e : Expr} (h : clsB G.tb G.t.icl c T e = true) : ∃ cv u, ClsE X G.F G.t e T cv u := by
  unfold clsB at h
  split at h
  · rename_i x p
    have bt : ∀ {s : String}, (s : Str) ∈ bltN → bootBuiltins (s : Str) = some (.type s) → (s : Str) ≠ "__name__" → ((s : Str) == ("__debug__" : Str)) = false → glB c.sc (s : Str) = true → PE X (.Name (s : Str) p) (tC (.ty s)) :=
      fun {s} hm hb hn hd hg => pe_bltn (ok.gl hg) (ok.blt gk hm) hb rfl hn hd
    have prims : ∀ {s : String} {T : TyC}, (∀ k, T ≠ .own k) → T ≠ .value → s ∈ ["int", "bool", "str", "list", "tuple", "dict"] → (s : Str) ∈ bltN → bootBuiltins (s : Str) = some (.type s) → (s : Str) ≠ "__name__" → ((s : Str) == ("__debug__" : Str)) = false →
        (kitB "NoneType" s = kitD G.t .non T ∧ kitB "bool" s = kitD G.t .bl T ∧ kitB "int" s = kitD G.t .int T ∧ kitB "str" s = kitD G.t .str T ∧ kitB "tuple" s = kitD G.t .tup T ∧ kitB "list" s = kitD G.t .lst T ∧ kitB "dict" s = kitD G.t .dct T) →
        (decide (x = (s : Str)) && glB c.sc x) = true → ∃ cv u, ClsE X G.F G.t (.Name x p) T cv u := by
      intro s T h1 h2 hm hb hv hn hd hk h
      have h' := Bool.and_eq_true_iff.mp h
      have e := of_decide_eq_true h'.1
      subst e
      refine ⟨.ty s, .type s, bt hb hv hn hd h'.2, .ty s, clsE_ty gk (ins_false h1 h2) hm fun n b hni hh => ?_, rfl⟩
      obtain ⟨k1, k2, k3, k4, k5, k6, k7⟩ := hk
      cases n with
      | non => exact kit_ty (k1.trans hh)
      | bl => exact kit_ty (k2.trans hh)
      | int => exact kit_ty (k3.trans hh)
      | str => exact kit_ty (k4.trans hh)
      | tup => exact kit_ty (k5.trans hh)
      | lst => exact kit_ty (k6.trans hh)
      | dct => exact kit_ty (k7.trans hh)
      | ins C => exact (hni C rfl).elim
    cases T with
    | int => exact prims (fun k z => nomatch z) (fun z => nomatch z) (by simp) (by decide +kernel) (by decide +kernel) (by decide +kernel) (by decide +kernel) (by refine ⟨?_, ?_, ?_, ?_, ?_, ?_, ?_⟩ <;> kernel_rfl) h
    | bool => exact prims (fun k z => nomatch z) (fun z => nomatch z) (by simp) (by decide +kernel) (by decide +kernel) (by decide +kernel) (by decide +kernel) (by refine ⟨?_, ?_, ?_, ?_, ?_, ?_, ?_⟩ <;> kernel_rfl) h
    | str => exact prims (fun k z => nomatch z) (fun z => nomatch z) (by simp) (by decide +kernel) (by decide +kernel) (by decide +kernel) (by decide +kernel) (by refine ⟨?_, ?_, ?_, ?_, ?_, ?_, ?_⟩ <;> kernel_rfl) h
    | list => exact prims (fun k z => nomatch z) (fun z => nomatch z) (by simp) (by decide +kernel) (by decide +kernel) (by decide +kernel) (by decide +kernel) (by refine ⟨?_, ?_, ?_, ?_, ?_, ?_, ?_⟩ <;> kernel_rfl) h
    | tuple => exact prims (fun k z => nomatch z) (fun z => nomatch z) (by simp) (by decide +kernel) (by decide +kernel) (by decide +kernel) (by decide +kernel) (by refine ⟨?_, ?_, ?_, ?_, ?_, ?_, ?_⟩ <;> kernel_rfl) h
    | dict => exact prims (fun k z => nomatch z) (fun z => nomatch z) (by simp) (by decide +kernel) (by decide +kernel) (by decide +kernel) (by decide +kernel) (by refine ⟨?_, ?_, ?_, ?_, ?_, ?_, ?_⟩ <;> kernel_rfl) h
    | value =>
      refine ⟨.ty "ValueError", .type "ValueError", ?_, .ty _, fun n b hh => ?_, rfl⟩
      · have h' := Bool.and_eq_true_iff.mp h
        have e := of_decide_eq_true h'.1
        subst e
        exact bt (by decide +kernel) (by decide +kernel) (by decide +kernel) (by decide +kernel) h'.2
      · cases n <;> exact nomatch hh
    | own k =>
      have h1 := Bool.and_eq_true_iff.mp h
      have h2 := Bool.and_eq_true_iff.mp h1.1
      have h3 := Bool.and_eq_true_iff.mp h2.1
      have hcl : G.tb.cl[k]? = some x := of_decide_eq_true h3.1
      have hic : G.t.icl k = true := h1.2
      refine ⟨.ref (G.F.ca k), .ref (G.F.ca k), pe_glob (ok.gl h3.2) (by rw [ok.mg]; exact gk.clv k x hcl) rfl (dbB_1 h2.2), .own _, fun n b hh => ?_, rfl⟩
      cases n with
      | ins C =>
        simp only [kitD] at hh
        split at hh
        · rename_i z; cases hh; exact gk.kitI C k z.1 z.2
        · cases hh
      | _ =>
        simp only [kitD] at hh
        rw [if_pos hic] at hh
        cases hh
        exact gk.kitN _ k hic (by simp)
  · cases h
theorem Cok.clsEs (ok : Cok G c X W hi) (gk : Gk X.K G.F G.t G.tb G.mg) : ∀ {Ts : List TyC} {es : List Expr}, clssB G.tb G.t.icl c Ts es = true → ∃ cvs us, ClsEs X G.F G.t es Ts cvs us ∧ cvs.length = Ts.length
  | [], [], _ => ⟨[], [], .nil, rfl⟩
  | T :: Ts, e :: es, h => by
    have h' := Bool.and_eq_true_iff.mp (show (clsB G.tb G.t.icl c T e && clssB G.tb G.t.icl c Ts es) = true from h)
    obtain ⟨cv, u, q⟩ := ok.clsE gk h'.1
    obtain ⟨cvs, us, r, hl⟩ := ok.clsEs gk h'.2
    exact ⟨cv :: cvs, u :: us, .cons q r, by simp [hl]⟩
  | [], _ :: _, h => nomatch h
  | _ :: _, [], h => nomatch h
/-- a class of a caught error -/
theorem Cok.xcls (ok : Cok G c X W hi) (gk : Gk X.K G.F G.t G.tb G.mg) {T : TyC} {e : Expr} (h : clsB G.tb G.t.exc c T e = true) :
    plainA e = true ∧ ((∀ n b, xisB G.t n T = some b → False) ∨ ∃ cv u, PE X e (tC cv) ∧ (∀ w, RelV cv w → w = u) ∧ ∀ k b, xisB G.t ⟨k, [], []⟩ T = some b → ExcC X.K (G.F.ca k) ∧ PySem.W.kitOne X.K (.ref (G.F.ca k)) u = some b) := by
  unfold clsB at h
  split at h
  · rename_i x p
    refine ⟨rfl, ?_⟩
    cases T with
    | value =>
      have h' := Bool.and_eq_true_iff.mp h
      have e := of_decide_eq_true h'.1
      subst e
      refine .inr ⟨.ty "ValueError", .type "ValueError", pe_bltn (ok.gl h'.2) (ok.blt gk (by decide +kernel)) (by decide +kernel) rfl (by decide +kernel) (by decide +kernel), fun w r => r, fun k b hh => ?_⟩
      simp only [xisB] at hh
      split at hh
      · rename_i z; cases hh; exact ⟨gk.xis k z, (gk.xval k z).1⟩
      · cases hh
    | own d =>
      have h1 := Bool.and_eq_true_iff.mp h
      have h2 := Bool.and_eq_true_iff.mp h1.1
      have h3 := Bool.and_eq_true_iff.mp h2.1
      have hcl : G.tb.cl[d]? = some x := of_decide_eq_true h3.1
      refine .inr ⟨.ref (G.F.ca d), .ref (G.F.ca d), pe_glob (ok.gl h3.2) (by rw [ok.mg]; exact gk.clv d x hcl) rfl (dbB_1 h2.2), fun w r => r, fun k b hh => ?_⟩
      simp only [xisB] at hh
      split at hh
      · rename_i z; cases hh; exact ⟨gk.xis k z.1, (gk.xkit k d z.1 z.2).1⟩
      · cases hh
    | _ => exact .inl fun n b hh => by simp only [xisB] at hh; cases hh
  · cases h
theorem bi_rule (hk : G.F.K = X.K) (hc : X.calm = true) (hu : X.A.units + 64 < cLine) : ∀ b : BI, b.ok = true → (∃ T, CallR X (.type T) (rPn G.F (biD b)) ∧ bootBuiltins b.nm = some (.type T)) ∨ (∃ T, CallR X (.builtin T) (rPn G.F (biD b)) ∧ bootBuiltins b.nm = some (.builtin T))
  | .len, _ => .inr ⟨_, cl_len hk, by decide +kernel⟩
  | .abs, _ => .inr ⟨_, cl_abs, by decide +kernel⟩
  | .int, _ => .inl ⟨_, cl_int, by decide +kernel⟩
  | .tuple, _ => .inl ⟨_, cl_tuple hk hc, by decide +kernel⟩
  | .list, _ => .inl ⟨_, cl_list hk hc, by decide +kernel⟩
  | .all, _ => .inr ⟨_, cl_all hk hc, by decide +kernel⟩
  | .any, _ => .inr ⟨_, cl_any hk hc, by decide +kernel⟩
  | .sum, _ => .inr ⟨_, cl_sum hk hc, by decide +kernel⟩
  | .max, _ => .inr ⟨_, cl_max hk hc, by decide +kernel⟩
  | .min, _ => .inr ⟨_, cl_min hk hc, by decide +kernel⟩
  | .str, _ => .inl ⟨_, cl_str, by decide +kernel⟩
  | .sorted, _ => .inr ⟨_, cl_sorted hk hu, by decide +kernel⟩
theorem bi_blt : ∀ b : BI, b.ok = true → b.nm ∈ bltN ∧ b.nm ≠ "__name__" ∧ (b.nm == ("__debug__" : Str)) = false
  | .len, _ => by decide +kernel
  | .abs, _ => by decide +kernel
  | .int, _ => by decide +kernel
  | .tuple, _ => by decide +kernel
  | .list, _ => by decide +kernel
  | .all, _ => by decide +kernel
  | .any, _ => by decide +kernel
  | .sum, _ => by decide +kernel
  | .max, _ => by decide +kernel
  | .min, _ => by decide +kernel
  | .str, _ => by decide +kernel
  | .sorted, _ => by decide +kernel
end
end Ev
end
section
set_option Elab.async false
set_option linter.all false
set_option maxRecDepth 100000
set_option maxHeartbeats 4000000
set_option autoImplicit false
/-! Ev, part O: what the checker passes is as the evaluator says: expressions, the theorem. -/
namespace Ev
open PySem PySem.Spec PyProof.Rows L2

theorem and2 {a b : Bool} (h : (a && b) = true) : a = true ∧ b = true := Bool.and_eq_true_iff.mp h
theorem okEs_plain {tb : Tb} {t : Ct} {c : Sc} : ∀ {es : Es} {xs : List Expr}, okEs tb t es c xs = true → xs.all plainA = true
  | .nil, xs, h => by
    unfold okEs at h
    cases xs with
    | nil => rfl
    | cons _ _ => cases h
  | .cons a r, xs, h => by
    unfold okEs at h
    cases xs with
    | nil => cases h
    | cons x xs =>
      obtain ⟨h1, h2⟩ := and2 h
      obtain ⟨h3, h4⟩ := and2 h1
      show (plainA x && xs.all plainA) = true
      rw [h3, okEs_plain h2]; rfl
theorem ownOf_map {c : Sc} {vs : List Nat} : (ownOf c vs).map (·.2) = vs := by
  unfold ownOf
  rw [List.map_map]
  exact List.map_id' vs
theorem all_mem {l vs : List Nat} (h : l.all vs.contains = true) : ∀ i ∈ l, i ∈ vs := fun i hi => by
  have := List.all_eq_true.mp h i hi
  simpa using this

section
variable {G : Gx}
mutual
theorem okT_ok : ∀ (g : T) {c : Sc} {X : Cx} {W : WX} {hi : Option Hi} {e : Expr}, Cok G c X W hi → okT c g e = true → PG X e (tgG X.K g)
  | .nm i, c, X, W, hi, e, ok, h => by
    unfold okT at h
    split at h
    · rename_i x p
      obtain ⟨h1, h2⟩ := and2 h
      have hN : X.N[i]? = some x := by rw [ok.N]; exact of_decide_eq_true h1
      split at h2
      · rename_i hl
        have hl' : X.env.scope.names.lookup x = some .local := by rw [ok.sc]; exact hl
        exact pg_name (by rw [ok.N]; exact ok.nd) hN (.inl hl') (.inr hl')
      · rename_i hl
        have hl' : X.env.scope.names.lookup x = some .cell := by rw [ok.sc]; exact hl
        exact pg_name (by rw [ok.N]; exact ok.nd) hN (.inr hl') (.inl (by rw [ok.fn]; exact h2))
      · cases h2
    · cases h
  | .tup ts, c, X, W, hi, e, ok, h => by
    unfold okT at h
    split at h
    · rename_i es k p
      obtain ⟨h1, h2⟩ := and2 h
      obtain ⟨h3, h4⟩ := and2 h1
      obtain ⟨q, hl⟩ := okTs_ok ts ok h4 h2
      exact pg_tup (ok.cm h3).1 q (by rw [ae_len h4, hl]) (ae_find h4)
    · cases h
theorem okTs_ok : ∀ (ts : Ts) {c : Sc} {X : Cx} {W : WX} {hi : Option Hi} {es : List Expr}, Cok G c X W hi → es.all plainA = true → okTs c ts es = true → PGs X es (tgGs X.K ts) ∧ es.length = lenTs ts
  | .nil, c, X, W, hi, es, ok, hp, h => by
    unfold okTs at h
    cases es with
    | nil => exact ⟨pgs_nil, rfl⟩
    | cons _ _ => cases h
  | .cons t r, c, X, W, hi, es, ok, hp, h => by
    unfold okTs at h
    cases es with
    | nil => cases h
    | cons e es =>
      obtain ⟨h1, h2⟩ := and2 h
      obtain ⟨p1, p2⟩ := and2 (show (plainA e && es.all plainA) = true from hp)
      obtain ⟨q, hl⟩ := okTs_ok r ok p2 h2
      exact ⟨pgs_cons (okT_ok t ok h1) q (by rw [ae_cons p1]; rfl), by show es.length + 1 = lenTs r + 1; rw [hl]⟩
end
variable (fns : Fns G)
include fns
mutual
theorem okE_ok : ∀ (a : E) {c : Sc} {X : Cx} {W : WX} {hi : Option Hi} {e : Expr}, Gk X.K G.F G.t G.tb G.mg → Cok G c X W hi → okE G.tb G.t a c e = true → OkE X G.F W hi e (evE G.t G.C (hi.map (·.x)) a)
  | .non, c, X, W, hi, e, gk, ok, h => by
    unfold okE at h
    split at h
    · exact .plain ok.hk (sE_c pe_non fun _ _ => rfl) rfl
    · cases h
  | .bl b, c, X, W, hi, e, gk, ok, h => by
    unfold okE at h
    split at h
    · have e := beq_iff_eq.mp h
      subst e
      exact .plain ok.hk (sE_c pe_bl fun _ _ => rfl) rfl
    · cases h
  | .int i, c, X, W, hi, e, gk, ok, h => by
    unfold okE at h
    split at h
    · have e := of_decide_eq_true h
      subst e
      exact .plain ok.hk (sE_c pe_int fun _ _ => rfl) rfl
    · cases h
  | .str cs, c, X, W, hi, e, gk, ok, h => by
    unfold okE at h
    split at h
    · have e := of_decide_eq_true h
      subst e
      exact .plain ok.hk (sE_c pe_str fun _ _ => rfl) rfl
    · cases h
  | .var i, c, X, W, hi, e, gk, ok, h => by
    unfold okE at h
    split at h
    · obtain ⟨v1, v2, v3, v4⟩ := ok.var h
      exact .plain ok.hk (sE_var v1 v2 v3 v4) rfl
    · cases h
  | .glb g, c, X, W, hi, e, gk, ok, h => by
    unfold okE at h
    split at h
    · obtain ⟨h1, h2⟩ := and2 h
      obtain ⟨h3, h4⟩ := and2 h1
      obtain ⟨v, u, q1, q2, q3⟩ := gk.glv g _ (of_decide_eq_true h3)
      exact .plain ok.hk (sE_c (pe_glob (ok.gl h4) (by rw [ok.mg]; exact q1) q2 (dbB_1 h2)) q3) rfl
    · cases h
  | .bin o a b, c, X, W, hi, e, gk, ok, h => by
    unfold okE at h
    split at h
    · obtain ⟨h1, h2⟩ := and2 h
      obtain ⟨h3, h4⟩ := and2 h1
      have e := of_decide_eq_true h3
      subst e
      exact .plain ok.hk (sE_op2 (pe_op (op_binS ok.hk o) (okE_ok a gk ok h4).pe (okE_ok b gk ok h2).pe)) rfl
    · cases h
  | .neg a, c, X, W, hi, e, gk, ok, h => by
    unfold okE at h
    split at h
    · exact .plain ok.hk (sE_neg (okE_ok a gk ok h).pe) rfl
    · cases h
  | .nt a, c, X, W, hi, e, gk, ok, h => by
    unfold okE at h
    split at h
    · obtain ⟨h1, h2⟩ := and2 h
      exact .nt (okE_ok a gk ok h2) h1
    · cases h
  | .and a b, c, X, W, hi, e, gk, ok, h => by
    unfold okE at h
    split at h
    · rename_i x y r p
      obtain ⟨h1, h2⟩ := and2 h
      obtain ⟨h3, h4⟩ := and2 h1
      cases r with
      | nil =>
        obtain ⟨h5, h6⟩ := and2 h2
        exact .and (okE_ok a gk ok h4) h3 (.one (okE_ok b gk ok h6) h5)
      | cons z r => exact .and (okE_ok a gk ok h4) h3 (okE_ok b gk ok h2)
    · cases h
  | .or a b, c, X, W, hi, e, gk, ok, h => by
    unfold okE at h
    split at h
    · rename_i x y r p
      obtain ⟨h1, h2⟩ := and2 h
      obtain ⟨h3, h4⟩ := and2 h1
      cases r with
      | nil =>
        obtain ⟨h5, h6⟩ := and2 h2
        exact .or (okE_ok a gk ok h4) h3 (.one (okE_ok b gk ok h6) h5)
      | cons z r => exact .or (okE_ok a gk ok h4) h3 (okE_ok b gk ok h2)
    · cases h
  | .cmp o a b, c, X, W, hi, e, gk, ok, h => by
    unfold okE at h
    split at h
    · obtain ⟨h1, h2⟩ := and2 h
      obtain ⟨h3, h4⟩ := and2 h1
      obtain ⟨h5, h6⟩ := and2 h3
      have e := of_decide_eq_true h5
      subst e
      exact .cmp ok.hk ok.un (okE_ok a gk ok h4) (okE_ok b gk ok h2) (by simpa using h6)
    · cases h
  | .chain o1 o2 a b d, c, X, W, hi, e, gk, ok, h => by
    unfold okE at h
    split at h
    · obtain ⟨h, h1⟩ := and2 h
      obtain ⟨h, h2⟩ := and2 h
      obtain ⟨h, h3⟩ := and2 h
      obtain ⟨h, h4⟩ := and2 h
      obtain ⟨h5, h6⟩ := and2 h
      have e1 := of_decide_eq_true h5
      have e2 := of_decide_eq_true h6
      subst e1 e2
      exact .chain ok.hk ok.un (okE_ok a gk ok h3) (okE_ok b gk ok h2) (okE_ok d gk ok h1) (by simpa using h4)
    · cases h
  | .ite k a b, c, X, W, hi, e, gk, ok, h => by
    unfold okE at h
    split at h
    · obtain ⟨h, h1⟩ := and2 h
      obtain ⟨h, h2⟩ := and2 h
      obtain ⟨h3, h4⟩ := and2 h
      exact .ite (okE_ok k gk ok h4) h3 (okE_ok a gk ok h2) (okE_ok b gk ok h1)
    · cases h
  | .tup es, c, X, W, hi, e, gk, ok, h => by
    unfold okE at h
    split at h
    · exact .plain ok.hk (sE_tup (okEs_ok es gk ok h)) rfl
    · cases h
  | .lst es, c, X, W, hi, e, gk, ok, h => by
    unfold okE at h
    split at h
    · exact .plain ok.hk (sE_lst (okEs_ok es gk ok h)) rfl
    · cases h
  | .emp k, c, X, W, hi, e, gk, ok, h => by
    unfold okE at h
    split at h
    · exact .plain ok.hk sE_emp rfl
    · cases h
  | .flst es, c, X, W, hi, e, gk, ok, h => by
    unfold okE at h
    split at h
    · exact .plain ok.hk (sE_flst (okEs_ok es gk ok h)) rfl
    · cases h
  | .femp k, c, X, W, hi, e, gk, ok, h => by
    unfold okE at h
    split at h
    · exact .plain ok.hk sE_femp rfl
    · cases h
  | .idx a i, c, X, W, hi, e, gk, ok, h => by
    unfold okE at h
    split at h
    · obtain ⟨h, h1⟩ := and2 h
      obtain ⟨h2, h3⟩ := and2 h
      exact .plain ok.hk (sE_idx ok.hk ok.un (okE_ok a gk ok h3).pe (okE_ok i gk ok h1).pe h2) rfl
    · cases h
  | .slc a lo hi', c, X, W, hi, e, gk, ok, h => by
    unfold okE at h
    split at h
    · obtain ⟨h, h1⟩ := and2 h
      obtain ⟨h2, h3⟩ := and2 h
      exact .plain ok.hk (sE_slc ok.hk (okE_ok a gk ok h2).pe (okO_ok lo gk ok h3) (okO_ok hi' gk ok h1)) rfl
    · cases h
  | .attr a f, c, X, W, hi, e, gk, ok, h => by
    unfold okE at h
    split at h
    · obtain ⟨h, h1⟩ := and2 h
      obtain ⟨h2, h3⟩ := and2 h
      exact .plain ok.hk (sE_attr ok.hk (okE_ok a gk ok h1).pe h3 (an_of gk.an (of_decide_eq_true h2)).1 (fun C hC => gk.fld C f hC)) rfl
    · cases h
  | .call f es, c, X, W, hi, e, gk, ok, h => by
    unfold okE at h
    split at h
    · rename_i x p y ys pos
      obtain ⟨h, h1⟩ := and2 h
      obtain ⟨h, h2⟩ := and2 h
      obtain ⟨h, h3⟩ := and2 h
      obtain ⟨h4, h5⟩ := and2 h
      obtain ⟨fa, m1, fnA⟩ := fns.fn f x (of_decide_eq_true h3)
      obtain ⟨fd, ps, n, hb, F1, hl⟩ := fnA.ex
      have F2 : FnOk X.prog X.w X.K X.mg X.base (L2.CX X.prog X.w) (2 * G.k + 3) fa fd ps (spD G.F n (G.C f)) := by
        rw [ok.prog, ok.w, ok.mg, ok.base, ok.K]; exact F1
      exact .plain ok.hk (sE_call F2 hl ((ok.cm h4).2.1.mono (by omega)) (ok.gl h5) (by rw [ok.mg]; exact m1) (by rw [ok.K]; exact fnA.kp) (by rw [ok.K]; exact hb) ok.tk (okEs_ok es gk ok h1) (dbB_1 h2) (okEs_plain h1)) rfl
    · cases h
  | .make k es, c, X, W, hi, e, gk, ok, h => by
    unfold okE at h
    split at h
    · rename_i x p y ys pos
      obtain ⟨h, h1⟩ := and2 h
      obtain ⟨h, h6⟩ := and2 h
      obtain ⟨h, h2⟩ := and2 h
      obtain ⟨h, h3⟩ := and2 h
      obtain ⟨h4, h5⟩ := and2 h
      cases hi2 : G.t.ini k with
      | none => rw [hi2] at h6; cases h6
      | some f =>
        obtain ⟨fa, m1, fnA⟩ := fns.ini k f hi2
        obtain ⟨fd, ps, n, hb, F1, hl⟩ := fnA.ex
        have F2 : FnOk X.prog X.w X.K X.mg X.base (L2.CX X.prog X.w) (2 * G.k + 3) fa fd ps (spD G.F n (G.C f)) := by
          rw [ok.prog, ok.w, ok.mg, ok.base, ok.K]; exact F1
        have key := sE_make (F := G.F) (W := W) (hi := hi) (c := k) (by rw [ok.K]; exact m1) F2 hl (ok.cm h4).2.1 (ok.gl h5) (by rw [ok.mg]; exact gk.clv k x (of_decide_eq_true h3)) (by rw [ok.K]; exact hb) ok.tk (okEs_ok es gk ok h1) (dbB_1 h2) (okEs_plain h1) (p := p) (pos := pos)
        refine .plain ok.hk ?_ rfl
        have e : (fun ρ S => (evEs G.t G.C (hi.map (·.x)) es ρ S).bind fun ds S => (G.C f (D.ref S.length :: ds) (S ++ [O.ins k [] []])).bind (mkEnd S.length)) = evE G.t G.C (hi.map (·.x)) (.make k es) := by
          funext ρ S
          show _ = (evEs G.t G.C (hi.map (·.x)) es ρ S).bind fun ds S => mkRun G.t G.C k ds S
          unfold mkRun
          rw [hi2]
        rw [← e]
        exact key
    · cases h
  | .bi b es, c, X, W, hi, e, gk, ok, h => by
    unfold okE at h
    split at h
    · rename_i x p y ys pos
      obtain ⟨h, h1⟩ := and2 h
      obtain ⟨h, h2⟩ := and2 h
      obtain ⟨h, h3⟩ := and2 h
      obtain ⟨h4, h5⟩ := and2 h
      have e := of_decide_eq_true h2
      subst e
      obtain ⟨n1, n2, n3⟩ := bi_blt b h4
      rcases bi_rule ok.hk (ok.cm h5).1 ok.un b h4 with ⟨T, r, hv⟩ | ⟨T, r, hv⟩
      · exact .plain ok.hk (sE_callT r (ok.gl h3) (ok.blt gk n1) hv (okEs_ok es gk ok h1) n2 n3 (okEs_plain h1)) rfl
      · exact .plain ok.hk (sE_callB r (ok.gl h3) (ok.blt gk n1) hv (okEs_ok es gk ok h1) n2 n3 (okEs_plain h1)) rfl
    · cases h
  | .meth m o es, c, X, W, hi, e, gk, ok, h => by
    unfold okE at h
    split at h
    · rename_i x nm ap ys cp
      obtain ⟨h, h1⟩ := and2 h
      obtain ⟨h, h2⟩ := and2 h
      obtain ⟨h, h3⟩ := and2 h
      obtain ⟨h, h4⟩ := and2 h
      obtain ⟨h, h5⟩ := and2 h
      obtain ⟨h6, h7⟩ := and2 h
      have ho := okE_ok o gk ok h4
      have hes := okEs_ok es gk ok h1
      cases ys with
      | nil =>
        cases es with
        | nil => exact .plain ok.hk (sE_meth0 ok.hk ok.un (of_decide_eq_true h7) (of_decide_eq_true h6) ho.pe h5 h3) rfl
        | cons a r => unfold okEs at h1; cases h1
      | cons y ys => exact .plain ok.hk (sE_meth ok.hk ok.un (of_decide_eq_true h7) (of_decide_eq_true h6) ho.pe hes h5 (okEs_plain h1) h2 h3) rfl
    · cases h
  | .omth m o es, c, X, W, hi, e, gk, ok, h => by
    unfold okE at h
    split at h
    · rename_i x nm ap ys cp
      obtain ⟨h, h1⟩ := and2 h
      obtain ⟨h, h2⟩ := and2 h
      obtain ⟨h, h3⟩ := and2 h
      obtain ⟨h, h4⟩ := and2 h
      obtain ⟨h, h5⟩ := and2 h
      obtain ⟨h6, h7⟩ := and2 h
      have ho := okE_ok o gk ok h4
      have hes := okEs_ok es gk ok h1
      have mo := ok.mth fns m
      have hr := (ok.cm h6).2.1.mono (show 2 * G.k + 3 ≤ 2 * G.k + 4 by omega)
      have hnm := (an_of gk.an (of_decide_eq_true h7)).1
      cases ys with
      | nil =>
        cases es with
        | nil => exact .plain ok.hk (sE_omth0 hnm mo hr ok.tk ho.pe h5 h3) rfl
        | cons a r => unfold okEs at h1; cases h1
      | cons y ys => exact .plain ok.hk (sE_omth hnm mo hr ok.tk ho.pe hes h5 (okEs_plain h1) h2 h3) rfl
    · cases h
  | .oeq m a b, c, X, W, hi, e, gk, ok, h => by
    unfold okE at h
    split at h
    · obtain ⟨h, h1⟩ := and2 h
      obtain ⟨h, h2⟩ := and2 h
      obtain ⟨h, h3⟩ := and2 h
      obtain ⟨h4, h5⟩ := and2 h
      have hnm := (an_of gk.an (of_decide_eq_true h5)).1
      exact .oeq ok.hk ok.un hnm (ok.mth fns m) ((ok.cm h4).2.1.mono (show 2 * G.k + 3 ≤ 2 * G.k + 4 by omega)) ok.tk gk.icl (fun c f hf => gk.eqo c m f hnm hf) (okE_ok a gk ok h2) (okE_ok b gk ok h1) (by simpa using h3)
    · cases h
  | .mulL z a b, c, X, W, hi, e, gk, ok, h => by
    unfold okE at h
    split at h
    · obtain ⟨h1, h2⟩ := and2 h
      exact .plain ok.hk (sE_op2 (pe_op (op_mulL z) (okE_ok a gk ok h1).pe (okE_ok b gk ok h2).pe)) rfl
    · cases h
  | .lrng k a, c, X, W, hi, e, gk, ok, h => by
    unfold okE at h
    split at h
    · rename_i x p r p2 y pos2 pos
      obtain ⟨h, h1⟩ := and2 h
      obtain ⟨h, h2⟩ := and2 h
      obtain ⟨h, h3⟩ := and2 h
      obtain ⟨h, h4⟩ := and2 h
      obtain ⟨h, h5⟩ := and2 h
      obtain ⟨h6, h7⟩ := and2 h
      have hx := of_decide_eq_true h7
      have hr := of_decide_eq_true h4
      subst hr
      have hb : x ∈ bltN := by subst hx; split <;> decide
      exact .plain ok.hk (sE_lrng (ok.cm h6).1 hx (ok.gl h5) (ok.blt gk hb) (ok.gl h3) (ok.blt gk (by decide)) (okE_ok a gk ok h1).pe h2) rfl
    · cases h
  | .lrng2 k a b, c, X, W, hi, e, gk, ok, h => by
    unfold okE at h
    split at h
    · rename_i x p r p2 y w pos2 pos
      obtain ⟨h, h1⟩ := and2 h
      obtain ⟨h, h2⟩ := and2 h
      obtain ⟨h, h8⟩ := and2 h
      obtain ⟨h, h9⟩ := and2 h
      obtain ⟨h, h3⟩ := and2 h
      obtain ⟨h, h4⟩ := and2 h
      obtain ⟨h, h5⟩ := and2 h
      obtain ⟨h6, h7⟩ := and2 h
      have hx := of_decide_eq_true h7
      have hr := of_decide_eq_true h4
      subst hr
      have hb : x ∈ bltN := by subst hx; split <;> decide
      exact .plain ok.hk (sE_lrng2 (ok.cm h6).1 hx (ok.gl h5) (ok.blt gk hb) (ok.gl h3) (ok.blt gk (by decide)) (okE_ok a gk ok h2).pe (okE_ok b gk ok h1).pe h9 h8) rfl
    · cases h
  | .isi a ts, c, X, W, hi, e, gk, ok, h => by
    unfold okE at h
    split at h
    · rename_i x p y ce pos
      obtain ⟨h, h1⟩ := and2 h
      obtain ⟨h, h2⟩ := and2 h
      obtain ⟨h, h3⟩ := and2 h
      obtain ⟨h4, h5⟩ := and2 h
      have e := of_decide_eq_true h4
      subst e
      have hm : X.mg "isinstance" = none := ok.blt gk (by decide +kernel)
      have one : ∀ T, ts = [T] → clsB G.tb G.t.icl c T ce = true → OkE X G.F W hi (.Call (.Name "isinstance" p) [y, ce] [] pos) (evE G.t G.C (hi.map (·.x)) (.isi a ts)) := fun T eT hT => by
        subst eT
        obtain ⟨cv, u, q⟩ := ok.clsE gk hT
        exact .plain ok.hk (sE_isi ok.hk gk.icl (ok.gl h5) hm (okE_ok a gk ok h2).pe q h3) rfl
      cases ce with
      | Tuple ces k p2 =>
        obtain ⟨h1, h6⟩ := and2 h1
        obtain ⟨h7, h8⟩ := and2 h1
        obtain ⟨cvs, us, q, hl⟩ := ok.clsEs gk h6
        exact .plain ok.hk (sE_isiT ok.hk gk.icl (ok.gl h5) hm (okE_ok a gk ok h2).pe q h3 (of_decide_eq_true h7) (by
          have := of_decide_eq_true h8
          rw [hl, sizeLine_eq]; omega)) rfl
      | _ =>
        dsimp only at h1
        split at h1
        · exact one _ rfl h1
        · cases h1
    · cases h
  | .xf f, c, X, W, hi, e, gk, ok, h => by
    unfold okE at h
    split at h
    · split at h
      · rename_i i hv
        obtain ⟨h1, h2⟩ := and2 h
        obtain ⟨v1, v2, v3, v4⟩ := ok.var h1
        obtain ⟨q, hq, hqi⟩ := ok.hv i hv
        obtain ⟨X0, oe, pn, eX, hz, hfd⟩ := ok.hx q hq
        exact .plain ok.hk (sE_xf eX hz hfd hq hqi v1 v2 v3 v4 (an_of gk.an (of_decide_eq_true h2)).1 (fun k hk => gk.xfc k f hk)) rfl
      · cases h
    · cases h
  | .xis T, c, X, W, hi, e, gk, ok, h => by
    unfold okE at h
    split at h
    · split at h
      · rename_i i hv
        obtain ⟨h, h1⟩ := and2 h
        obtain ⟨h, h2⟩ := and2 h
        obtain ⟨h3, h4⟩ := and2 h
        have e := of_decide_eq_true h3
        subst e
        obtain ⟨v1, v2, v3, v4⟩ := ok.var h2
        obtain ⟨q, hq, hqi⟩ := ok.hv i hv
        obtain ⟨X0, oe, pn, eX, hz, hfd⟩ := ok.hx q hq
        obtain ⟨hpc, hc | ⟨cv, u, c1, c2, c3⟩⟩ := ok.xcls gk h1
        · refine .plain ok.hk (PE.bad fun ρ S => ?_) rfl
          subst hq
          show (match xisB G.t q.x T with
            | some b => if q.x.fs = [] then R.ok (D.bl b) S else R.bad
            | none => R.bad) = R.bad
          cases hb : xisB G.t q.x T with
          | none => rfl
          | some b => exact (hc _ _ hb).elim
        · exact .plain ok.hk (sE_xis eX hz hfd hq hqi v1 v2 v3 v4 (ok.gl h4) (ok.blt gk (by decide +kernel)) c1 c2 hpc c3) rfl
      · cases h
    · cases h
  | .lc elt tg it cd vs, c, X, W, hi, e, gk, ok, h => by
    unfold okE at h
    split at h
    · rename_i x g iter ifs s p
      obtain ⟨h, h1⟩ := and2 h
      obtain ⟨h, h2⟩ := and2 h
      obtain ⟨h, h3⟩ := and2 h
      obtain ⟨h, h4⟩ := and2 h
      obtain ⟨h, h5⟩ := and2 h
      obtain ⟨h, h6⟩ := and2 h
      obtain ⟨h7, h8⟩ := and2 h
      obtain ⟨cal, _, hn⟩ := ok.cm h7
      subst hn
      have hbl : BlkOk X.N X.env.scope s (ownOf c vs) := by rw [ok.N, ok.sc]; exact blkOk_by h6
      have hN : X.N.Nodup := by rw [ok.N]; exact ok.nd
      have key := pe_lc (pos := p) (g := tgG X.K tg) cal hN (okI_ok it gk ok h4) hbl
        (fun sh H C cl fp => okT_ok tg (ok.blk h7 sh H s cl C fp) h3)
        (fun sh H C cl fp => okC_ok cd (X := X.blk sh H s (compEnvC s cl C X.env) fp) gk (ok.blk h7 sh H s cl C fp) h2)
        (fun sh H C cl fp => (okE_ok elt (X := X.blk sh H s (compEnvC s cl C X.env) fp) gk (ok.blk h7 sh H s cl C fp) h1).pe) (fun _ => notSet_is h8 _)
      refine .plain ok.hk (PE.imp key fun σ H Q q => ?_) rfl
      rw [ownOf_map, ← ok.hk]
      exact lc_reads (all_mem h5) q
    · cases h
  | .lc2 elt tg it tg1 it1 vs vs1, c, X, W, hi, e, gk, ok, h => by
    unfold okE at h
    split at h
    · rename_i x g iter g1 iter1 s p
      obtain ⟨h, h1⟩ := and2 h
      obtain ⟨h, h2⟩ := and2 h
      obtain ⟨h, h3⟩ := and2 h
      obtain ⟨h, h4⟩ := and2 h
      obtain ⟨h, h5⟩ := and2 h
      obtain ⟨h, h6⟩ := and2 h
      obtain ⟨h, h7⟩ := and2 h
      obtain ⟨h, h8⟩ := and2 h
      obtain ⟨h, h9⟩ := and2 h
      obtain ⟨h, h10⟩ := and2 h
      obtain ⟨h11, h12⟩ := and2 h
      obtain ⟨cal, _, hn⟩ := ok.cm h11
      subst hn
      have hbl : BlkOk X.N X.env.scope s (ownOf c vs) := by rw [ok.N, ok.sc]; exact blkOk_by h9
      have hN : X.N.Nodup := by rw [ok.N]; exact ok.nd
      have key := pe_lc2 (pos := p) (vs1 := vs1) (g := tgG X.K tg) (g1 := tgG X.K tg1) (tt1 := tT G.F W0 none fun _ S => .ok true S) cal hN (okI_ok it gk ok h5) hbl (by rw [ownOf_map]; exact all_mem h6)
        (fun sh H C cl fp => okT_ok tg (ok.blk h11 sh H s cl C fp) h4) (fun sh H C cl fp => pts_nil)
        (fun sh H C cl fp => okI_ok it1 (X := X.blk sh H s (compEnvC s cl C X.env) fp) gk (ok.blk h11 sh H s cl C fp) h3)
        (fun sh H C cl fp => okT_ok tg1 (ok.blk h11 sh H s cl C fp) h2)
        (fun sh H C cl fp => ⟨fun pins s σ H Q I ⟨ρ, μ, S, e, rel, q⟩ => pts_nil.run pins s σ H Q I (Sat.here (σ := σ) (W := W0) (P := fun b _ _ H' => Q b H') (F := G.F) (a := true) q rel)⟩)
        (fun sh H C cl fp => (okE_ok elt (X := X.blk sh H s (compEnvC s cl C X.env) fp) gk (ok.blk h11 sh H s cl C fp) h1).pe) (fun _ => notSet_is h12 _) (fun _ _ => notSet_is h10 _)
      refine .plain ok.hk (PE.imp key fun σ H Q q => ?_) rfl
      rw [ownOf_map, ← ok.hk]
      exact lc2_reads (all_mem h8) (all_mem h7) q
    · cases h
  | .frz a, c, X, W, hi, e, gk, ok, h => by
    unfold okE at h
    obtain ⟨h1, h2⟩ := and2 h
    exact .plain ok.hk (sE_frz (okE_ok a gk ok h2).pe) h1
theorem okEs_ok : ∀ (es : Es) {c : Sc} {X : Cx} {W : WX} {hi : Option Hi} {xs : List Expr}, Gk X.K G.F G.t G.tb G.mg → Cok G c X W hi → okEs G.tb G.t es c xs = true → PA X xs (tA G.F W hi (evEs G.t G.C (hi.map (·.x)) es))
  | .nil, c, X, W, hi, xs, gk, ok, h => by
    unfold okEs at h
    cases xs with
    | nil => exact sA_nil
    | cons _ _ => cases h
  | .cons a r, c, X, W, hi, xs, gk, ok, h => by
    unfold okEs at h
    cases xs with
    | nil => cases h
    | cons x xs =>
      obtain ⟨h, h1⟩ := and2 h
      obtain ⟨h2, h3⟩ := and2 h
      exact sA_cons (okE_ok a gk ok h3).pe (okEs_ok r gk ok h1) h2
theorem okO_ok : ∀ (o : OE) {c : Sc} {X : Cx} {W : WX} {hi : Option Hi} {x : Option Expr}, Gk X.K G.F G.t G.tb G.mg → Cok G c X W hi → okO G.tb G.t o c x = true → PO X x (tO G.F W hi (evO G.t G.C (hi.map (·.x)) o))
  | .no, c, X, W, hi, x, gk, ok, h => by
    unfold okO at h
    split at h
    · exact sO_no
    · cases h
  | .yes a, c, X, W, hi, x, gk, ok, h => by
    unfold okO at h
    split at h
    · exact sO_yes (okE_ok a gk ok h).pe
    · cases h
theorem okC_ok : ∀ (o : OE) {c : Sc} {X : Cx} {W : WX} {hi : Option Hi} {xs : List Expr}, Gk X.K G.F G.t G.tb G.mg → Cok G c X W hi → okC G.tb G.t o c xs = true → PTs X xs (tT G.F W hi (evC G.t G.C (hi.map (·.x)) o))
  | .no, c, X, W, hi, xs, gk, ok, h => by
    unfold okC at h
    cases xs with
    | nil => exact ⟨fun pins s σ H Q I ⟨ρ, μ, S, e, rel, q⟩ => pts_nil.run pins s σ H Q I (Sat.here (σ := σ) (W := W) (P := fun b _ _ H' => Q b H') (F := G.F) (a := true) q rel)⟩
    | cons _ _ => cases h
  | .yes a, c, X, W, hi, xs, gk, ok, h => by
    unfold okC at h
    split at h
    · obtain ⟨h1, h2⟩ := and2 h
      exact pts_one ((okE_ok a gk ok h2).pt h1)
    · cases h
theorem okI_ok : ∀ (i : I) {c : Sc} {X : Cx} {W : WX} {hi : Option Hi} {g e : Expr}, Gk X.K G.F G.t G.tb G.mg → Cok G c X W hi → okI G.tb G.t i c g e = true → PI X g e (tI G.F W hi (evI G.t G.C (hi.map (·.x)) i))
  | .of a, c, X, W, hi, g, e, gk, ok, h => by
    unfold okI at h
    exact sI_of ok.hk (okE_ok a gk ok h).pe
  | .rng a, c, X, W, hi, g, e, gk, ok, h => by
    unfold okI at h
    split at h
    · obtain ⟨h, h1⟩ := and2 h
      obtain ⟨h, h2⟩ := and2 h
      obtain ⟨h3, h4⟩ := and2 h
      have e := of_decide_eq_true h3
      subst e
      exact sI_rng (ok.gl h4) (ok.blt gk (by decide +kernel)) (okE_ok a gk ok h1).pe h2
    · cases h
  | .rng2 a b, c, X, W, hi, g, e, gk, ok, h => by
    unfold okI at h
    split at h
    · obtain ⟨h, h1⟩ := and2 h
      obtain ⟨h, h2⟩ := and2 h
      obtain ⟨h, h3⟩ := and2 h
      obtain ⟨h, h4⟩ := and2 h
      obtain ⟨h5, h6⟩ := and2 h
      have e := of_decide_eq_true h5
      subst e
      exact sI_rng2 (ok.gl h6) (ok.blt gk (by decide +kernel)) (okE_ok a gk ok h2).pe (okE_ok b gk ok h1).pe h4 h3
    · cases h
  | .zip a b, c, X, W, hi, g, e, gk, ok, h => by
    unfold okI at h
    split at h
    · obtain ⟨h, h1⟩ := and2 h
      obtain ⟨h, h2⟩ := and2 h
      obtain ⟨h, h3⟩ := and2 h
      obtain ⟨h, h4⟩ := and2 h
      obtain ⟨h5, h6⟩ := and2 h
      have e := of_decide_eq_true h5
      subst e
      exact sI_zip ok.hk (ok.gl h6) (ok.blt gk (by decide +kernel)) (okE_ok a gk ok h2).pe (okE_ok b gk ok h1).pe h4 h3
    · cases h
  | .enm a, c, X, W, hi, g, e, gk, ok, h => by
    unfold okI at h
    split at h
    · obtain ⟨h, h1⟩ := and2 h
      obtain ⟨h, h2⟩ := and2 h
      obtain ⟨h3, h4⟩ := and2 h
      have e := of_decide_eq_true h3
      subst e
      exact sI_enm ok.hk (ok.gl h4) (ok.blt gk (by decide +kernel)) (okE_ok a gk ok h1).pe h2
    · cases h
end
end
end Ev
end
section
set_option Elab.async false
set_option linter.all false
set_option maxRecDepth 100000
set_option maxHeartbeats 4000000
set_option autoImplicit false
/-! Ev, part P: what the checker passes is as the evaluator says: statements. -/
namespace Ev
open PySem PySem.Spec PyProof.Rows L2

def Sc.suite (c : Sc) (n : Option Nat) : Sc := { c with cm := false, hv := n }
def swN (tg : Expr) (l : Nat) : Bool := match tg with
  | .Name _ p => p.line != l
  | _ => true
/-- no comprehension that is stored as it ends -/
def swB (tg e : Expr) : Bool := !isLC e || swN tg e.pos.line
theorem swN_is {tg e : Expr} {l : Nat} {env : Env} (h : swN tg e.pos.line = true) : swapsWith e (some tg) l env = pure false := by
  unfold swapsWith
  split
  · rename_i o s hs
    cases tg with
    | Name x p =>
      have h3 : (p.line == e.pos.line) = false := by
        have h4 : (p.line != e.pos.line) = true := h
        rw [bne] at h4
        simpa using h4
      dsimp only
      rw [h3]
      simp
    | _ => rfl
  · rfl
theorem swB_is {tg e : Expr} {l : Nat} {env : Env} (h : swB tg e = true) : swapsWithSole [tg] e l env = pure false := by
  show swapsWith e (some tg) l env = pure false
  unfold swB at h
  cases hl : isLC e with
  | false => exact sw_plain hl
  | true => rw [hl] at h; exact swN_is h
/-- a target that is a cell: nothing is stored at once -/
def swC (c : Sc) (tg : Expr) : Bool := match tg with
  | .Name y _ => !(c.sc.names.lookup y == some .local)
  | _ => false
theorem swC_is {c : Sc} {tg e : Expr} {l : Nat} {env : Env} (hsc : env.scope = c.sc) (h : swC c tg = true) : swapsWithSole [tg] e l env = pure false := by
  show swapsWith e (some tg) l env = pure false
  cases tg with
  | Name y p =>
    have h2 : (env.kindOf y == some .local) = false := by
      have : (c.sc.names.lookup y == some .local) = false := by
        have h3 : (!(c.sc.names.lookup y == some .local)) = true := h
        simpa using h3
      rw [← hsc] at this
      exact this
    unfold swapsWith
    split
    · dsimp only
      rw [h2]
      simp
    · rfl
  | _ => cases h
def isStar : Expr → Bool
  | .Starred .. => true
  | _ => false
theorem star_no {e : Expr} (h : plainA e = true) : isStar e = false := by
  cases e <;> first | rfl | exact (Bool.false_ne_true h).elim
theorem any_star {a b : Expr} (ha : isStar a = false) (hb : isStar b = false) : ([a, b].any fun | .Starred .. => true | _ => false) = false := by
  show (isStar a || (isStar b || false)) = false
  rw [ha, hb]; rfl
theorem two_names {env : Env} {x y : Str} {px py : Pos} (kx : env.kindOf x = some .local) (ky : env.kindOf y = some .local) (h : (py.line == px.line) = true) : ([Expr.Name x px, Expr.Name y py].filterMap fun
    | .Name id pos => if env.kindOf id == some .local && pos.line == px.line then some id else none
    | _ => none) = [x, y] := by
  have h' : py.line = px.line := by simpa using h
  rw [List.filterMap_cons_some (b := x) (by simp [kx]), List.filterMap_cons_some (b := y) (by simp [ky, h'])]
  rfl
/-- .. that is -/
def swL (c : Sc) (y : Str) (py p : Pos) (s : Scope) : Bool := (match c.sc.kind with
  | .function => true
  | _ => false) && decide (c.sc.names.lookup y = some .local) && (py.line == p.line) && !(s.names.any fun (n, k) => n == y && (k == .local || k == .cell))
theorem swL_is {c : Sc} {y : Str} {py p : Pos} {s : Scope} {env : Env} {x : Expr} {gs : List Comprehension} {l : Nat} (hsc : env.scope = c.sc) (h : swL c y py p s = true) :
    swapsWith (.ListComp x gs s p) (some (.Name y py)) l env = pure true ∧ c.sc.names.lookup y = some .local := by
  obtain ⟨h, h1⟩ := and2 h
  obtain ⟨h, h2⟩ := and2 h
  obtain ⟨h3, h4⟩ := and2 h
  have h4' := of_decide_eq_true h4
  refine ⟨?_, h4'⟩
  have hk : env.blockKind = .function := by
    unfold Env.blockKind
    rw [hsc]
    split at h3
    · rename_i e; rw [e]; rfl
    · cases h3
  unfold swapsWith
  show (pure (env.blockKind == .function && env.kindOf y == some .local && py.line == (Expr.ListComp x gs s p).pos.line && !(s.names.any fun (n, k) => n == y && (k == .local || k == .cell))) : Sem Bool) = _
  have hko : env.kindOf y = some .local := by unfold Env.kindOf; rw [hsc]; exact h4'
  rw [hk, hko, show (Expr.ListComp x gs s p).pos.line = p.line from rfl, h2, h1]
  rfl
/-- two names, two values: stored from the right -/
def parB (c : Sc) (x y : Str) (px py : Pos) (a b : Expr) : Bool := (match c.sc.kind with
  | .function => true
  | _ => false) && decide (c.sc.names.lookup x = some .local) && decide (c.sc.names.lookup y = some .local) && (py.line == px.line) && decide (x ≠ y) && plainA a && plainA b && !([a, b].all (foldedForSure 8)) && !([a, b].all (constantsAlone 8))
theorem parB_is {c : Sc} {x y : Str} {px py pt : Pos} {a b : Expr} {kt k2 : Nat} {pt2 : Pos} {env : Env} (hsc : env.scope = c.sc) (h : parB c x y px py a b = true) :
    swappedStores [.Tuple [.Name x px, .Name y py] kt pt] (.Tuple [a, b] k2 pt2) env = pure (some [x, y]) ∧ c.sc.names.lookup x = some .local ∧ c.sc.names.lookup y = some .local ∧ plainA a = true ∧ plainA b = true := by
  obtain ⟨h, h1⟩ := and2 h
  obtain ⟨h, h2⟩ := and2 h
  obtain ⟨h, h3⟩ := and2 h
  obtain ⟨h, h4⟩ := and2 h
  obtain ⟨h, h5⟩ := and2 h
  obtain ⟨h, h6⟩ := and2 h
  obtain ⟨h, h7⟩ := and2 h
  obtain ⟨h8, h9⟩ := and2 h
  have h7' := of_decide_eq_true h7
  have h9' := of_decide_eq_true h9
  refine ⟨?_, h9', h7', h4, h3⟩
  have hk : env.blockKind = .function := by
    unfold Env.blockKind
    rw [hsc]
    split at h8
    · rename_i e; rw [e]; rfl
    · cases h8
  have kx : env.kindOf x = some .local := by unfold Env.kindOf; rw [hsc]; exact h9'
  have ky : env.kindOf y = some .local := by unfold Env.kindOf; rw [hsc]; exact h7'
  have hne : x ≠ y := of_decide_eq_true h5
  have hf : ([a, b].all (foldedForSure 8)) = false := by
    cases hq : [a, b].all (foldedForSure 8) with
    | false => rfl
    | true => rw [hq] at h2; cases h2
  have hc : ([a, b].all (constantsAlone 8)) = false := by
    cases hq : [a, b].all (constantsAlone 8) with
    | false => rfl
    | true => rw [hq] at h1; cases h1
  have hed : ([x, y] : List Str).eraseDups.length = 2 := by
    have : (y == x) = false := beq_eq_false_iff_ne.mpr (Ne.symm hne)
    simp [List.eraseDups, List.eraseDupsBy, List.eraseDupsBy.loop, this]
  have hsa := any_star (star_no h4) (star_no h3)
  have hnm := two_names kx ky h6
  unfold swappedStores
  refine (if_neg ?_).trans ?_
  · rw [hk]; exact Bool.false_ne_true
  refine (if_neg fun z => Bool.false_ne_true (hsa.symm.trans z)).trans ?_
  have e1 : ∀ (names : List Str), names = [x, y] → (if (names.length != 2 || names.eraseDups.length != names.length) = true then (pure none : Sem (Option (List Str)))
      else if ([a, b].all (foldedForSure 8)) = true then pure none
      else if ([a, b].all (constantsAlone 8)) = true then do unsupported "assign.tuple-of-constant-expressions:order-of-the-stores"; pure (some names) else pure (some names)) = pure (some [x, y]) := by
    intro names e
    subst e
    rw [if_neg (by rw [hed]; exact Bool.false_ne_true), hf, hc]
    rfl
  exact e1 _ hnm
section
variable (tb : Tb) (t : Ct)
mutual
def okS : S → Sc → Stmt → Bool
  | .pass, c, s => (match s with
    | .Pass _ => true
    | _ => false)
  | .doc, c, s => (match s with
    | .Expr (.Constant (.str _) _ _) _ => true
    | _ => false)
  | .ret e, c, s => (match s with
    | .Return (some x) _ => okE tb t e c x
    | _ => false)
  | .retN, c, s => (match s with
    | .Return none _ => true
    | _ => false)
  | .exp e, c, s => (match s with
    | .Expr x _ => !isLC x && okE tb t e c x
    | _ => false)
  | .asg g e, c, s => (match s with
    | .Assign [tg] x _ => (swB tg x || swC c tg) && !(isTp tg && isTp x) && !isLs tg && plainA tg && (match c.hv with
      | some i => !(tSl g).contains i
      | none => true) && okT c g tg && okE tb t e c x
    | _ => false)
  | .asgL z i elt tg it cd vs, c, s => (match s with
    | .Assign [.Name y py] (.ListComp x [⟨g, iter, ifs, 0⟩] sc p) _ => decide (c.N[i]? = some y) && swL c y py p sc && okE tb t (.lc elt tg it cd vs) c (.ListComp x [⟨g, iter, ifs, 0⟩] sc p)
    | _ => false)
  | .asgL2 z i elt tg it tg1 it1 vs vs1, c, s => (match s with
    | .Assign [.Name y py] (.ListComp x [⟨g, iter, [], 0⟩, ⟨g1, iter1, [], 0⟩] sc p) _ => decide (c.N[i]? = some y) && swL c y py p sc && okE tb t (.lc2 elt tg it tg1 it1 vs vs1) c (.ListComp x [⟨g, iter, [], 0⟩, ⟨g1, iter1, [], 0⟩] sc p)
    | _ => false)
  | .par i j a b, c, s => (match s with
    | .Assign [.Tuple [.Name x px, .Name y py] _ _] (.Tuple [e1, e2] _ _) _ => c.cm && decide (c.N[i]? = some x) && decide (c.N[j]? = some y) && decide (i ≠ j) && parB c x y px py e1 e2 && okE tb t a c e1 && okE tb t b c e2
    | _ => false)
  | .asgI o i e, c, s => (match s with
    | .Assign [.Subscript x y _] v _ => plainI y && okE tb t e c v && okE tb t o c x && okE tb t i c y
    | _ => false)
  | .asgF o f e, c, s => (match s with
    | .Assign [.Attribute x fn _] v _ => decide (tb.an[f]? = some fn) && !isLC v && okE tb t e c v && okE tb t o c x
    | _ => false)
  | .aug i op e, c, s => (match s with
    | .AugAssign (.Name x _) op' v _ => decide (op = op') && (decide (op = .Add) || decide (op = .Sub)) && decide (c.hv = none) && okT c (.nm i) (.Name x ⟨0, 0, 0, 0⟩) && okE tb t e c v
    | _ => false)
  | .ife k a b, c, s => (match s with
    | .If x xs ys _ => tsB x && okE tb t k c x && okSs a c xs && okSs b c ys
    | _ => false)
  | .wh k b, c, s => (match s with
    | .While x xs [] _ => c.cm && tsB x && okE tb t k c x && okSs b c xs
    | _ => false)
  | .fr g it b, c, s => (match s with
    | .For tg iter xs [] _ => c.cm && notSet iter && okI tb t it c tg iter && okT c g tg && okSs b c xs
    | _ => false)
  | .rse k es, c, s => (match s with
    | .Raise (some (.Call (.Name x _) ys [] _)) none _ => c.cm && decide (tb.cl[k]? = some x) && glB c.sc x && dbB x && t.exc k && (match es, ys with
      | .nil, [] => (t.xfs k).isEmpty
      | .cons a .nil, [y] => decide ((t.xfs k).length = 1) && plainA y && okE tb t a c y
      | _, _ => false)
    | _ => false)
  | .tri b hs, c, s => (match s with
    | .Try xs (h :: hds) [] [] _ => c.cm && okSs b c xs && okHs hs c (h :: hds)
    | _ => false)
def okSs : Ss → Sc → List Stmt → Bool
  | .nil, c, xs => xs.isEmpty
  | .cons s r, c, xs => (match xs with
    | x :: xs => okS s c x && okSs r c xs
    | [] => false)
def okHs : Hs → Sc → List ExceptHandler → Bool
  | .nil, c, hs => hs.isEmpty
  | .cons T n b r, c, hs => (match hs with
    | .ExceptHandler (some (.Name x p)) nm (b0 :: su) _ :: hs => clsB tb t.exc c T (.Name x p) && (match T with
      | .own _ => true
      | .value => true
      | _ => false) && (match n, nm with
      | none, none => true
      | some i, some y => decide (c.N[i]? = some y) && decide (c.sc.names.lookup y = some .local)
      | _, _ => false) && okSs b (c.suite n) (b0 :: su) && okHs r c hs
    | _ => false)
end
end
end Ev
end
section
set_option Elab.async false
set_option linter.all false
set_option maxRecDepth 100000
set_option maxHeartbeats 4000000
set_option autoImplicit false
/-! Ev, part Q: what the checker passes is as the evaluator says: statements, the theorem. -/
namespace Ev
open PySem PySem.Spec PyProof.Rows L2

structure CokS (G : Gx) (c : Sc) (X : Cx) (W : WX) (hi : Option Hi) : Prop where
  e : Cok G c X W hi
  po : c.cm = true → PassesOwn (model X.prog X.w) X.A X.env X.xe
  top : c.cm = true → X.stack = X.env :: X.outer ∧ X.env.frame = some X.env.locals
/-- the classes that are raised -/
structure Rz (G : Gx) : Prop where
  r0 : ∀ c, G.t.exc c = true → G.t.xfs c = [] → ∃ (B nid iid : String) (bmB : List Value), ExcBaseFacts B nid iid bmB ∧ PySem.W.excIn G.F.K (G.F.ca c) bmB nid = true ∧ PySem.W.keepIn G.F.K (.ref (G.F.ca c)) = true ∧
    PySem.W.subIn G.F.K (.ref (G.F.ca c)) (.type "BaseException") = some true ∧ PySem.W.typeIn G.F.K (.ref (G.F.ca c)) = some (.type "type")
  r1 : ∀ c f, G.t.exc c = true → G.t.xfs c = [f] → OexC G.F.K (G.F.ca c) ∧ ∃ (fI : Addr) (fd : FuncData) (sn pn : Str), PySem.W.findIn G.F.K (.ref (G.F.ca c)) "__init__" = some (some (.ref fI)) ∧ PySem.W.typeIn G.F.K (.ref fI) = some (.type "function") ∧
    FnOk G.P G.w G.F.K G.mg G.base (L2.CX G.P G.w) 1 fI fd [sn, pn] (spI1 G.F.K (G.F.nm f)) ∧ Binds G.F.K fd [sn, pn] [] ∧ PySem.W.findIn G.F.K (.ref (G.F.ca c)) (G.F.nm f) = some none ∧ f < G.F.an.length

section
variable {G : Gx}
theorem CokS.tr {c : Sc} {X : Cx} {W : WX} (ok : CokS G c X W none) {W' : WX} {pn : List (Addr × Obj)} {xe : Value → Shared → Prop} (tk : Takes (X.tr pn xe) W') (po : PassesOwn (model X.prog X.w) X.A X.env xe) : CokS G c (X.tr pn xe) W' none where
  e := ⟨ok.e.prog, ok.e.w, ok.e.K, ok.e.mg, ok.e.base, ok.e.N, ok.e.nd, ok.e.sc, ok.e.fn, ok.e.un, tk, fun h => ok.e.cm h, ok.e.hv1, ok.e.hv2, fun h e => by cases e⟩
  po := fun _ => po
  top := fun h => ok.top h
theorem CokS.suite {c : Sc} {X : Cx} {W : WX} (ok : CokS G c X W none) {a : Addr} {oe : Obj} {cls : Value} {d : Option Addr} {pn : List (Addr × Obj)} {x : Exn} {n : Option Nat} (hz : Zc cls d oe) (hf : ∃ vs, oe.data = .fields vs) :
    CokS G (c.suite n) (X.suite a ((a, oe) :: pn)) W0 (some ⟨a, cls, d, x, n⟩) where
  e := ⟨ok.e.prog, ok.e.w, ok.e.K, ok.e.mg, ok.e.base, ok.e.N, ok.e.nd, ok.e.sc, ok.e.fn, ok.e.un, takes0, fun h => (Bool.false_ne_true h).elim, fun h => (by cases h), fun h e => (by cases e; rfl), fun h e => by cases e; exact ⟨X, oe, pn, rfl, hz, hf⟩⟩
  po := fun h => nomatch h
  top := fun h => nomatch h
theorem not_t {b : Bool} (h : (!b) = true) : b = false := by cases b <;> first | rfl | cases h
theorem hv_no {c : Sc} {X : Cx} {W : WX} {hi : Option Hi} (ok : Cok G c X W hi) {t : T} (h : (match c.hv with
      | some i => !(tSl t).contains i
      | none => true) = true) : ∀ q, hi = some q → ∀ i, q.i = some i → i ∉ tSl t := fun q hq i hqi m => by
  have e := (ok.hv2 q hq).symm.trans hqi
  rw [e] at h
  have h' : (!(tSl t).contains i) = true := h
  have : (tSl t).contains i = true := by simpa using m
  rw [this] at h'; cases h'
variable (fns : Fns G) (rz : Rz G)
include fns rz
mutual
theorem okS_ok : ∀ (s : S) {c : Sc} {X : Cx} {W : WX} {hi : Option Hi} {st : Stmt}, Gk X.K G.F G.t G.tb G.mg → CokS G c X W hi → okS G.tb G.t s c st = true → PS X st (tS G.F W hi (evS G.t G.C s (hi.map (·.x))))
  | .pass, c, X, W, hi, st, gk, ok, h => by
    unfold okS at h
    split at h
    · exact sS_next ps_pass
    · cases h
  | .doc, c, X, W, hi, st, gk, ok, h => by
    unfold okS at h
    split at h
    · exact sS_next ps_doc
    · cases h
  | .ret e, c, X, W, hi, st, gk, ok, h => by
    unfold okS at h
    split at h
    · exact sS_ret (okE_ok fns e gk ok.e h).pe
    · cases h
  | .retN, c, X, W, hi, st, gk, ok, h => by
    unfold okS at h
    split at h
    · exact sS_retN
    · cases h
  | .exp e, c, X, W, hi, st, gk, ok, h => by
    unfold okS at h
    split at h
    · obtain ⟨h1, h2⟩ := and2 h
      exact sS_exp (okE_ok fns e gk ok.e h2).pe (by simpa using h1)
    · cases h
  | .asg g e, c, X, W, hi, st, gk, ok, h => by
    unfold okS at h
    split at h
    · obtain ⟨h, h1⟩ := and2 h
      obtain ⟨h, h2⟩ := and2 h
      obtain ⟨h, h3⟩ := and2 h
      obtain ⟨h, h4⟩ := and2 h
      obtain ⟨h, h5⟩ := and2 h
      obtain ⟨h6, h7⟩ := and2 h
      exact sS_asg ok.e.hk (okE_ok fns e gk ok.e h1).pe (okT_ok g ok.e h2) ((Bool.or_eq_true_iff.mp h6).elim swB_is (swC_is ok.e.sc)) (not_t h7) (by simpa using h5) h4 (hv_no ok.e h3)
    · cases h
  | .asgL z i elt tg it cd vs, c, X, W, hi, st, gk, ok, h => by
    unfold okS at h
    split at h
    · rename_i y py x g iter ifs sc p pos
      obtain ⟨h, h0⟩ := and2 h
      obtain ⟨n1, n2⟩ := and2 h
      unfold okE at h0
      obtain ⟨h, h1⟩ := and2 h0
      obtain ⟨h, h2⟩ := and2 h
      obtain ⟨h, h3⟩ := and2 h
      obtain ⟨h, h4⟩ := and2 h
      obtain ⟨h, h5⟩ := and2 h
      obtain ⟨h, h6⟩ := and2 h
      obtain ⟨h7, h8⟩ := and2 h
      obtain ⟨cal, _, hn⟩ := ok.e.cm h7
      subst hn
      obtain ⟨sw, hl⟩ := swL_is (l := pos.line) (x := x) (gs := [⟨g, iter, ifs, 0⟩]) ok.e.sc n2
      have hbl : BlkOk X.N X.env.scope sc (ownOf c vs) := by rw [ok.e.N, ok.e.sc]; exact blkOk_by h6
      have hN : X.N.Nodup := by rw [ok.e.N]; exact ok.e.nd
      have key := ps_setLc (g := tgG X.K tg) cal hN (by rw [ok.e.N]; exact of_decide_eq_true n1) (by rw [ok.e.sc]; exact hl) sw (okI_ok fns it gk ok.e h4) hbl
        (fun sh H C cl fp => okT_ok tg (ok.e.blk h7 sh H sc cl C fp) h3)
        (fun sh H C cl fp => okC_ok fns cd (X := X.blk sh H sc (compEnvC sc cl C X.env) fp) gk (ok.e.blk h7 sh H sc cl C fp) h2)
        (fun sh H C cl fp => (okE_ok fns elt (X := X.blk sh H sc (compEnvC sc cl C X.env) fp) gk (ok.e.blk h7 sh H sc cl C fp) h1).pe) (fun _ => notSet_is h8 _)
      exact sS_asgLc (z := z) (f := evE G.t G.C none (.lc elt tg it cd vs)) key (fun σ H Q q => by rw [ownOf_map, ← ok.e.hk]; exact lc_reads (all_mem h5) q) fun q hq => nomatch hq
    · cases h
  | .asgL2 z i elt tg it tg1 it1 vs vs1, c, X, W, hi, st, gk, ok, h => by
    unfold okS at h
    split at h
    · rename_i y py x g iter g1 iter1 sc p pos
      obtain ⟨h, h0⟩ := and2 h
      obtain ⟨n1, n2⟩ := and2 h
      unfold okE at h0
      obtain ⟨h, h1⟩ := and2 h0
      obtain ⟨h, h2⟩ := and2 h
      obtain ⟨h, h3⟩ := and2 h
      obtain ⟨h, h4⟩ := and2 h
      obtain ⟨h, h5⟩ := and2 h
      obtain ⟨h, h6⟩ := and2 h
      obtain ⟨h, h7⟩ := and2 h
      obtain ⟨h, h8⟩ := and2 h
      obtain ⟨h, h9⟩ := and2 h
      obtain ⟨h, h10⟩ := and2 h
      obtain ⟨h11, h12⟩ := and2 h
      obtain ⟨cal, _, hn⟩ := ok.e.cm h11
      subst hn
      obtain ⟨sw, hl⟩ := swL_is (l := pos.line) (x := x) (gs := [⟨g, iter, [], 0⟩, ⟨g1, iter1, [], 0⟩]) ok.e.sc n2
      have hbl : BlkOk X.N X.env.scope sc (ownOf c vs) := by rw [ok.e.N, ok.e.sc]; exact blkOk_by h9
      have hN : X.N.Nodup := by rw [ok.e.N]; exact ok.e.nd
      have key := ps_setLc2 (vs1 := vs1) (g := tgG X.K tg) (g1 := tgG X.K tg1) (tt1 := tT G.F W0 none fun _ S => .ok true S) cal hN (by rw [ok.e.N]; exact of_decide_eq_true n1) (by rw [ok.e.sc]; exact hl) sw (okI_ok fns it gk ok.e h5) hbl (by rw [ownOf_map]; exact all_mem h6)
        (fun sh H C cl fp => okT_ok tg (ok.e.blk h11 sh H sc cl C fp) h4) (fun sh H C cl fp => pts_nil)
        (fun sh H C cl fp => okI_ok fns it1 (X := X.blk sh H sc (compEnvC sc cl C X.env) fp) gk (ok.e.blk h11 sh H sc cl C fp) h3)
        (fun sh H C cl fp => okT_ok tg1 (ok.e.blk h11 sh H sc cl C fp) h2)
        (fun sh H C cl fp => ⟨fun pins s σ H Q I ⟨ρ, μ, S, e, rel, q⟩ => pts_nil.run pins s σ H Q I (Sat.here (σ := σ) (W := W0) (P := fun b _ _ H' => Q b H') (F := G.F) (a := true) q rel)⟩)
        (fun sh H C cl fp => (okE_ok fns elt (X := X.blk sh H sc (compEnvC sc cl C X.env) fp) gk (ok.e.blk h11 sh H sc cl C fp) h1).pe) (fun _ => notSet_is h12 _) (fun _ _ => notSet_is h10 _)
      exact sS_asgLc (z := z) (f := evE G.t G.C none (.lc2 elt tg it tg1 it1 vs vs1)) key (fun σ H Q q => by rw [ownOf_map, ← ok.e.hk]; exact lc2_reads (all_mem h8) (all_mem h7) q) fun q hq => nomatch hq
    · cases h
  | .par i j a b, c, X, W, hi, st, gk, ok, h => by
    unfold okS at h
    split at h
    · obtain ⟨h, h1⟩ := and2 h
      obtain ⟨h, h2⟩ := and2 h
      obtain ⟨h, h3⟩ := and2 h
      obtain ⟨h, h4⟩ := and2 h
      obtain ⟨h, h5⟩ := and2 h
      obtain ⟨h6, h7⟩ := and2 h
      obtain ⟨cal, _, hn⟩ := ok.e.cm h6
      subst hn
      obtain ⟨sw, lx, ly, pa, pb⟩ := parB_is ok.e.sc h3
      exact sS_par cal (by rw [ok.e.N]; exact ok.e.nd) (by rw [ok.e.N]; exact of_decide_eq_true h7) (by rw [ok.e.N]; exact of_decide_eq_true h5) (of_decide_eq_true h4) (by rw [ok.e.sc]; exact lx) (by rw [ok.e.sc]; exact ly)
        (okE_ok fns a gk ok.e h2).pe (okE_ok fns b gk ok.e h1).pe pa pb sw
    · cases h
  | .asgI o i e, c, X, W, hi, st, gk, ok, h => by
    unfold okS at h
    split at h
    · obtain ⟨h, h1⟩ := and2 h
      obtain ⟨h, h2⟩ := and2 h
      obtain ⟨h3, h4⟩ := and2 h
      exact sS_asgI ok.e.un (okE_ok fns e gk ok.e h4).pe (okE_ok fns o gk ok.e h2).pe (okE_ok fns i gk ok.e h1).pe h3 (swB_is (by unfold swB swN; simp))
    · cases h
  | .asgF o f e, c, X, W, hi, st, gk, ok, h => by
    unfold okS at h
    split at h
    · obtain ⟨h, h1⟩ := and2 h
      obtain ⟨h, h2⟩ := and2 h
      obtain ⟨h3, h4⟩ := and2 h
      exact sS_asgF (okE_ok fns e gk ok.e h2).pe (okE_ok fns o gk ok.e h1).pe (an_of gk.an (of_decide_eq_true h3)).1 (by simpa using h4) fun C hC => gk.fld C f hC
    · cases h
  | .aug i op e, c, X, W, hi, st, gk, ok, h => by
    unfold okS at h
    split at h
    · rename_i x p op' v pos
      obtain ⟨h, h1⟩ := and2 h
      obtain ⟨h, h2⟩ := and2 h
      obtain ⟨h, h3⟩ := and2 h
      obtain ⟨h4, h5⟩ := and2 h
      have eo := of_decide_eq_true h4
      subst eo
      unfold okT at h2
      obtain ⟨k1, k2⟩ := and2 h2
      have hv : c.hv = none := of_decide_eq_true h3
      have hN : X.N[i]? = some x := by rw [ok.e.N]; exact of_decide_eq_true k1
      have loc : L2.Loc X.env.scope x ∧ (X.fn x = true ∨ X.env.scope.names.lookup x = some .local) := by
        unfold L2.Loc
        rw [ok.e.sc, ok.e.fn]
        split at k2
        · rename_i hl; exact ⟨.inl hl, .inr hl⟩
        · rename_i hl; exact ⟨.inr hl, .inl k2⟩
        · cases k2
      exact sS_aug (by rw [ok.e.N]; exact ok.e.nd) hN loc.1 (okE_ok fns e gk ok.e h1).pe loc.2 (by rcases Bool.or_eq_true_iff.mp h5 with z | z; exact .inl (of_decide_eq_true z); exact .inr (of_decide_eq_true z))
        fun q hq j hj => by have := (ok.e.hv2 q hq).symm.trans hj; rw [hv] at this; cases this
    · cases h
  | .ife k a b, c, X, W, hi, st, gk, ok, h => by
    unfold okS at h
    split at h
    · obtain ⟨h, h1⟩ := and2 h
      obtain ⟨h, h2⟩ := and2 h
      obtain ⟨h3, h4⟩ := and2 h
      exact sS_ife ((okE_ok fns k gk ok.e h4).pt h3) (okSs_ok a gk ok h2) (okSs_ok b gk ok h1)
    · cases h
  | .wh k b, c, X, W, hi, st, gk, ok, h => by
    unfold okS at h
    split at h
    · obtain ⟨h, h1⟩ := and2 h
      obtain ⟨h, h2⟩ := and2 h
      obtain ⟨h3, h4⟩ := and2 h
      exact sS_wh (ok.po h3) ((okE_ok fns k gk ok.e h2).pt h4) (okSs_ok b gk ok h1)
    · cases h
  | .fr g it b, c, X, W, hi, st, gk, ok, h => by
    unfold okS at h
    split at h
    · obtain ⟨h, h1⟩ := and2 h
      obtain ⟨h, h2⟩ := and2 h
      obtain ⟨h, h3⟩ := and2 h
      obtain ⟨h4, h5⟩ := and2 h
      obtain ⟨cal, _, hn⟩ := ok.e.cm h4
      subst hn
      exact sS_fr ok.e.hk (ok.po h4) cal (okI_ok fns it gk ok.e h3) (okT_ok g ok.e h2) (okSs_ok b gk ok h1) (fun _ => notSet_is h5 _)
    · cases h
  | .rse k es, c, X, W, hi, st, gk, ok, h => by
    unfold okS at h
    split at h
    · rename_i x p ys p2 pos
      obtain ⟨h, h1⟩ := and2 h
      obtain ⟨h, h2⟩ := and2 h
      obtain ⟨h, h3⟩ := and2 h
      obtain ⟨h, h4⟩ := and2 h
      obtain ⟨h5, h6⟩ := and2 h
      obtain ⟨cal, hr, hn⟩ := ok.e.cm h5
      subst hn
      have gC : X.mg x = some (.ref (G.F.ca k)) := by rw [ok.e.mg]; exact gk.clv k x (of_decide_eq_true h6)
      split at h1
      · obtain ⟨B, nid, iid, bmB, F1, q1, q2, q3, q4⟩ := rz.r0 k h2 (List.isEmpty_iff.mp h1)
        exact sS_rse0 cal ok.e.tk F1 (by rw [ok.e.K]; exact q1) gC (by rw [ok.e.K]; exact q2) (raises_own (by rw [ok.e.K]; exact q3) (by rw [ok.e.K]; exact q4)) (ok.e.gl h4) (dbB_1 h3) (List.isEmpty_iff.mp h1)
      · rename_i a y
        obtain ⟨h1, h7⟩ := and2 h1
        obtain ⟨h8, h9⟩ := and2 h1
        have hlen := of_decide_eq_true h8
        obtain ⟨f, hfs⟩ := List.length_eq_one_iff.mp hlen
        obtain ⟨T, fI, fd, sn, pn, i1, i2, F1, hb, hno, hlt⟩ := rz.r1 k f h2 hfs
        have F2 : FnOk X.prog X.w X.K X.mg X.base (L2.CX X.prog X.w) 1 fI fd [sn, pn] (spI1 X.K (G.F.nm f)) := by
          rw [ok.e.prog, ok.e.w, ok.e.mg, ok.e.base, ok.e.K]; exact F1
        exact sS_rse1 cal ok.e.tk (by rw [ok.e.K]; exact T) (by rw [ok.e.K]; exact i1) (by rw [ok.e.K]; exact i2) F2 hr (by rw [ok.e.K]; exact hb) (ok.e.gl h4) gC (okE_ok fns a gk ok.e h7).pe (dbB_1 h3) h9 hfs rfl hlt (by rw [ok.e.K]; exact hno)
      · cases h1
    · cases h
  | .tri b hs, c, X, W, hi, st, gk, ok, h => by
    unfold okS at h
    split at h
    · rename_i xs h0 hds pos
      obtain ⟨h, h1⟩ := and2 h
      obtain ⟨h2, h3⟩ := and2 h
      obtain ⟨cal, _, hn⟩ := ok.e.cm h2
      subst hn
      obtain ⟨l, q1, q2⟩ := okHs_ok hs gk ok h1
      exact sS_tri (ok.top h2).1 (ok.top h2).2 (by rw [ok.e.N]; exact ok.e.nd) ok.e.tk (fun W' pn xe tk po => okSs_ok b (X := X.tr pn xe) gk (ok.tr tk po) h3) q1 q2
    · cases h
theorem okSs_ok : ∀ (ss : Ss) {c : Sc} {X : Cx} {W : WX} {hi : Option Hi} {sts : List Stmt}, Gk X.K G.F G.t G.tb G.mg → CokS G c X W hi → okSs G.tb G.t ss c sts = true → PSs X sts (tS G.F W hi (evSs G.t G.C ss (hi.map (·.x))))
  | .nil, c, X, W, hi, sts, gk, ok, h => by
    unfold okSs at h
    cases sts with
    | nil => exact sS_nil
    | cons _ _ => cases h
  | .cons s r, c, X, W, hi, sts, gk, ok, h => by
    unfold okSs at h
    cases sts with
    | nil => cases h
    | cons st sts =>
      obtain ⟨h1, h2⟩ := and2 h
      exact sS_cons (okS_ok s gk ok h1) (okSs_ok r gk ok h2)
theorem okHs_ok : ∀ (hs : Hs) {c : Sc} {X : Cx} {W : WX} {hds : List ExceptHandler}, Gk X.K G.F G.t G.tb G.mg → CokS G c X W none → okHs G.tb G.t hs c hds = true → ∃ l, HdsMix X hds l ∧ HsRel X.K G.F G.t G.C hs l
  | .nil, c, X, W, hds, gk, ok, h => by
    unfold okHs at h
    cases hds with
    | nil => exact ⟨[], .nil, .nil⟩
    | cons _ _ => cases h
  | .cons T n b r, c, X, W, hds, gk, ok, h => by
    unfold okHs at h
    split at h
    · rename_i x p nm b0 su pos hds'
      obtain ⟨h, h1⟩ := and2 h
      obtain ⟨h, h2⟩ := and2 h
      obtain ⟨h, h3⟩ := and2 h
      obtain ⟨h4, h5⟩ := and2 h
      obtain ⟨l, q1, q2⟩ := okHs_ok r gk ok h1
      have hc : ∃ cv, Names X x cv ∧ ∀ y v, xisB G.t y T = some v → PySem.W.exmOne X.K (.ref (G.F.ca y.c)) cv = some v := by
        unfold clsB at h4
        cases T with
        | value =>
          obtain ⟨k1, k2⟩ := and2 h4
          have e := of_decide_eq_true k1
          subst e
          refine ⟨.type "ValueError", ⟨ok.e.gl k2, by decide +kernel, .inr ⟨ok.e.blt gk (by decide +kernel), by decide +kernel, by decide +kernel⟩⟩, fun y v hh => ?_⟩
          simp only [xisB] at hh
          split at hh
          · rename_i z; cases hh; exact (gk.xval y.c z).2
          · cases hh
        | own d =>
          obtain ⟨k1, k2⟩ := and2 h4
          obtain ⟨k1, k3⟩ := and2 k1
          obtain ⟨k4, k5⟩ := and2 k1
          refine ⟨.ref (G.F.ca d), ⟨ok.e.gl k5, dbB_1 k3, .inl (by rw [ok.e.mg]; exact gk.clv d x (of_decide_eq_true k4))⟩, fun y v hh => ?_⟩
          simp only [xisB] at hh
          split at hh
          · rename_i z; cases hh; exact (gk.xkit y.c d z.1 z.2).2
          · cases hh
        | _ => cases h5
      obtain ⟨cv, c1, c2⟩ := hc
      have suite : ∀ (a : Addr) (oe : Obj) (cls : Value) (d : Option Addr) (pn : List (Addr × Obj)), Zc cls d oe → (∃ vs, oe.data = .fields vs) →
          PSs (X.suite a ((a, oe) :: pn)) (b0 :: su) (fun En σ H => ∃ x, tS G.F W0 (some ⟨a, cls, d, x, n⟩) (fun ρ S => evSs G.t G.C b (some x) ρ S) En σ H) := fun a oe cls d pn hz hf =>
        ⟨fun pins s σ H En I ⟨y, q⟩ => (okSs_ok b (X := X.suite a ((a, oe) :: pn)) gk (ok.suite (x := y) (n := n) hz hf) h2).run pins s σ H En I q⟩
      cases n with
      | none =>
        cases nm with
        | none => exact ⟨_, .cons (n := none) c1 (fun q hq => nomatch hq) suite q1, .cons c2 q2⟩
        | some y => cases h3
      | some i =>
        cases nm with
        | none => cases h3
        | some y =>
          obtain ⟨k1, k2⟩ := and2 h3
          refine ⟨_, .cons (n := some (y, i)) c1 (fun q hq => ?_) suite q1, .cons c2 q2⟩
          cases hq
          refine ⟨by rw [ok.e.N]; exact of_decide_eq_true k1, ?_⟩
          show X.env.scope.names.lookup y = _
          rw [ok.e.sc]; exact of_decide_eq_true k2
    · cases h
end
end
end Ev
end
section
set_option Elab.async false
set_option linter.all false
set_option maxRecDepth 100000
set_option maxHeartbeats 4000000
set_option autoImplicit false
/-! Ev, part R: all defs at once, the law's end. -/
namespace Ev
open PySem PySem.Spec PyProof.Rows L2

theorem RepL.some_get {F : Fx} {μ : Mu} {H : Hp} : ∀ {ds : List D} {vs : List V} {i : Nat} {d : D} {k : Nat}, RepL F μ H ds vs → ((ds.map some ++ List.replicate k none : List (Option D))[i]? = some (some d)) →
    ∃ v, (vs.map some ++ List.replicate k none : List (Option V))[i]? = some (some v) ∧ Rep F μ H d v := by
  intro ds vs i d k r h
  have hl := r.length
  by_cases hi : i < ds.length
  · rw [List.getElem?_append_left (by simpa using hi), List.getElem?_map] at h
    obtain ⟨d', h1, h2⟩ := Option.map_eq_some_iff.mp h
    cases h2
    obtain ⟨v, e1, e2⟩ := r.get h1
    exact ⟨v, by rw [List.getElem?_append_left (by simp [hl]; exact hi), List.getElem?_map, e1]; rfl, e2⟩
  · rw [List.getElem?_append_right (by simp; omega)] at h
    have h3 : (List.replicate k (none : Option D))[i - (ds.map some).length]? = some (some d) := h
    rw [List.getElem?_replicate] at h3
    split at h3 <;> cases h3
theorem start_env {F : Fx} {μ : Mu} {H : Hp} {ds : List D} {vs : List V} {N : List Str} (r : RepL F μ H ds vs) (n : Nat) (hn : n = N.length) : EnvR F none μ H (ds.map some ++ List.replicate (n - ds.length) none) (L2.start N vs) := by
  subst hn
  refine EnvR.of ⟨?_, fun i d h => ?_⟩
  · unfold L2.start; simp [r.length]
  · unfold L2.start
    rw [r.length]
    exact r.some_get h
/-- a def of the text, as the tables have it -/
structure DefOk (K : PySem.W.Frag) (t : Ct) (tb : Tb) (f : Nat) (fa : Addr) : Prop where
  ex : ∃ (x qual : Str) (params : Arguments) (body : List Stmt) (scope : Scope) (kws : List (Str × V)) (fd : FuncData) (N ps : List Str) (d : Df),
    FunD K x qual params body scope [] kws fa fd ∧ FnScope N ps scope ∧ Binds K fd ps [] ∧ t.defs f = some d ∧ d.np = ps.length ∧ d.nn = N.length ∧
      okSs tb t d.body { N := N, sc := scope, fn := fun _ => true, cm := true, hv := none } body = true
theorem def_run {F : Fx} {μ : Mu} {H : Hp} {σ : L2.St} {W : WX} {Q : VK} {t : Ct} {C : Orc} {d : Df} {ds : List D} {S : List O} {En : Ends} (rel : Rel F μ S H) (hn : ∀ σ H, Q .non H → En.nx σ H) (hr : ∀ v H, Q v H → En.rt v H) (hW : ∀ cls dd σ' H, W cls dd σ H → W cls dd σ' H)
    (h : Sat F μ H (runD t C d ds S) σ W (PD F Q)) : ds.length = d.np ∧ SatF F none W En μ H (evSs t C d.body none (ds.map some ++ List.replicate (d.nn - ds.length) none) S) := by
  unfold runD at h
  split at h
  · rename_i hl
    refine ⟨hl, ?_⟩
    have h2 : Sat F μ H (match evSs t C d.body none (ds.map some ++ List.replicate (d.nn - ds.length) none) S with
      | .nx _ S' => .ok .non S'
      | .rt v S' => .ok v S'
      | .ex x _ S' => .ex x S'
      | .bad => .bad) σ W (PD F Q) := by
      dsimp only at h
      split at h
      · exact h
      · exact gcSat rel h
    cases hf : evSs t C d.body none (ds.map some ++ List.replicate (d.nn - ds.length) none) S with
    | nx ρ S' => rw [hf] at h2; exact fun μ' H' σ' x r e => hn _ _ (h2 μ' H' x r .non rfl)
    | rt v S' => rw [hf] at h2; exact fun μ' H' w x r e => hr _ _ (h2 μ' H' x r w e)
    | ex y ρ S' => rw [hf] at h2; exact fun μ' H' σ' cls dd x r e z => hW _ _ _ _ (h2 μ' H' cls dd x r z)
    | bad => rw [hf] at h2; exact h2.elim
  · exact h.elim
theorem sp_sat {F : Fx} {n : Nat} {r : List D → List O → R D} {vs : List V} {H : Hp} {Q : VK} {E : XK} (h : spD F n r vs H Q E) : ∃ μ S ds, Rel F μ S H ∧ RepL F μ H ds vs ∧ ∀ σ, Sat F μ H (r ds S) σ (fun cls d _ H => E cls d H) (PD F Q) := by
  obtain ⟨_, μ, S, ds, rel, rds, h⟩ := h
  refine ⟨μ, S, ds, rel, rds, fun σ => ?_⟩
  cases hr : r ds S with
  | ok d S' => rw [hr] at h; exact fun μ' H' x r' v rv => h μ' H' v x r' rv
  | ex y S' => rw [hr] at h; exact h
  | bad => rw [hr] at h; exact h
theorem runD_len {t : Ct} {C : Orc} {d : Df} {ds : List D} {S : List O} (h : runD t C d ds S ≠ .bad) : ds.length = d.np := by
  unfold runD at h
  split at h
  · assumption
  · exact (h rfl).elim
section
variable {P : Program} {w : World} {F : Fx} {t : Ct} {tb : Tb} {mg : Str → Option Value} {base : Heap}
/-- one def, its callees at the level below -/
theorem def_fn {k f : Nat} {fa : Addr} {x qual : Str} {params : Arguments} {body : List Stmt} {scope : Scope} {kws : List (Str × V)} {fd : FuncData} {N ps : List Str} {d : Df} (gk : Gk F.K F t tb mg) (rz : Rz ⟨F, t, callD t k, k, P, w, mg, base, tb⟩)
    (fns : Fns ⟨F, t, callD t k, k, P, w, mg, base, tb⟩)
    (Fd : FunD F.K x qual params body scope [] kws fa fd) (sc : FnScope N ps scope) (hd : t.defs f = some d) (hnn : d.nn = N.length)
    (hok : okSs tb t d.body { N := N, sc := scope, fn := fun _ => true, cm := true, hv := none } body = true) : FnOk P w F.K mg base (L2.CX P w) (2 * k + 4 + 1) fa fd ps (spD F ps.length (callD t (k + 1) f)) := by
  have hcall : ∀ ds S, callD t (k + 1) f ds S = runD t (callD t k) d ds S := fun ds S => by
    show (match t.defs f with
      | some d => runD t (callD t k) d ds S
      | none => .bad) = _
    rw [hd]
  refine Fd.ok (k := 2 * k + 4) sc (fun vs H Q E h => h.1) fun cdv A outer s H vs Q E hr h => ?_
  obtain ⟨μ, S, ds, rel, rds, hs⟩ := sp_sat h
  have ok : CokS ⟨F, t, callD t k, k, P, w, mg, base, tb⟩ { N := N, sc := scope, fn := fun _ => true, cm := true, hv := none } (cxOf (L2.CX P w) P w F.K mg base N qual scope fa cdv A outer s H E) (fun cls d _ H => E cls d H) none :=
    { e := ⟨rfl, rfl, rfl, rfl, rfl, rfl, sc.nd, rfl, rfl, hr.units, takes_of rfl rfl rfl rfl, fun _ => ⟨rfl, hr, rfl⟩, fun _ => rfl, fun h e => (by cases e), fun h e => (by cases e)⟩
      po := fun _ => passes_of rfl
      top := fun _ => ⟨rfl, rfl⟩ }
  refine ⟨_, okSs_ok fns rz d.body gk ok hok, ?_⟩
  have hs' := hs (L2.start N vs)
  show tS F (fun cls d _ H => E cls d H) none (evSs t (callD t k) d.body none) { nx := fun _ H' => Q .non H', rt := Q } (L2.start N vs) H
  have hs2 : Sat F μ H (runD t (callD t k) d ds S) (L2.start N vs) (fun cls d _ H => E cls d H) (PD F Q) := by rw [← hcall]; exact hs'
  obtain ⟨hl, hf⟩ := def_run (En := { nx := fun _ H' => Q .non H', rt := Q }) rel (fun _ _ q => q) (fun _ _ q => q) (fun _ _ _ _ q => q) hs2
  exact ⟨_, μ, S, start_env rds d.nn hnn, rel, hf⟩
theorem def_ok {k f : Nat} {fa : Addr} (gk : Gk F.K F t tb mg) (rz : Rz ⟨F, t, callD t k, k, P, w, mg, base, tb⟩)
    (fns : Fns ⟨F, t, callD t k, k, P, w, mg, base, tb⟩) (df : DefOk F.K t tb f fa) : FnA ⟨F, t, callD t (k + 1), k + 1, P, w, mg, base, tb⟩ f fa := by
  obtain ⟨x, qual, params, body, scope, kws, fd, N, ps, d, Fd, sc, hb, hd, hnp, hnn, hok⟩ := df.ex
  refine ⟨Fd.kp, fd, ps, ps.length, hb, ?_, fun ds S h => ?_⟩
  · show FnOk P w F.K mg base (L2.CX P w) (2 * (k + 1) + 3) fa fd ps (spD F ps.length (callD t (k + 1) f))
    rw [show 2 * (k + 1) + 3 = 2 * k + 4 + 1 by omega]
    exact def_fn gk rz fns Fd sc hd hnn hok
  have h' : callD t (k + 1) f ds S ≠ .bad := h
  have hcall : callD t (k + 1) f ds S = runD t (callD t k) d ds S := by
    show (match t.defs f with
      | some d => runD t (callD t k) d ds S
      | none => .bad) = _
    rw [hd]
  rw [hcall] at h'
  rw [runD_len h', hnp]
/-- the defs of the text -/
structure Dfs (F : Fx) (t : Ct) (tb : Tb) (mg : Str → Option Value) : Prop where
  fn : ∀ f x, tb.fn[f]? = some x → ∃ fa, mg x = some (.ref fa) ∧ DefOk F.K t tb f fa
  ini : ∀ c f, t.ini c = some f → ∃ fa, Mk F.K (F.ca c) fa ∧ DefOk F.K t tb f fa
  mth : ∀ c m f, t.mth c m = some f → m < F.an.length ∧ ∃ fa, Cls F.K (F.ca c) ∧ Meth F.K (F.ca c) (F.nm m) fa ∧ DefOk F.K t tb f fa
theorem all_0 {f : Nat} {fa : Addr} (d : DefOk F.K t tb f fa) : FnA ⟨F, t, callD t 0, 0, P, w, mg, base, tb⟩ f fa := by
  obtain ⟨x, qual, params, body, scope, kws, fd, N, ps, d, Fd, sc, hb, _⟩ := d.ex
  exact ⟨Fd.kp, fd, ps, ps.length, hb, ⟨fun vs H Q E h => h.1, fun A outer s H args us vs Q E hr e0 b r h => by obtain ⟨_, μ, S, ds, _, _, z⟩ := h; exact z.elim⟩, fun ds S h => (h rfl).elim⟩
theorem all_ok (gk : Gk F.K F t tb mg) (rz : ∀ C k, Rz ⟨F, t, C, k, P, w, mg, base, tb⟩) (df : Dfs F t tb mg) : ∀ k : Nat, Fns ⟨F, t, callD t k, k, P, w, mg, base, tb⟩
  | 0 => ⟨fun f x h => by obtain ⟨fa, m, d⟩ := df.fn f x h; exact ⟨fa, m, all_0 d⟩, fun c f h => by obtain ⟨fa, m, d⟩ := df.ini c f h; exact ⟨fa, m, all_0 d⟩,
    fun c m f h => by obtain ⟨l, fa, m1, m2, d⟩ := df.mth c m f h; exact ⟨l, fa, m1, m2, all_0 d⟩⟩
  | k + 1 => ⟨fun f x h => by obtain ⟨fa, m, d⟩ := df.fn f x h; exact ⟨fa, m, def_ok gk (rz _ _) (all_ok gk rz df k) d⟩, fun c f h => by obtain ⟨fa, m, d⟩ := df.ini c f h; exact ⟨fa, m, def_ok gk (rz _ _) (all_ok gk rz df k) d⟩,
    fun c m f h => by obtain ⟨l, fa, m1, m2, d⟩ := df.mth c m f h; exact ⟨l, fa, m1, m2, def_ok gk (rz _ _) (all_ok gk rz df k) d⟩⟩
end
/-- the law's promise -/
theorem law_sp {F : Fx} {t : Ct} {k L : Nat} {a : Addr} {ns : List Int} {H : Hp} (h : SqL F.K H a (ns.map V.int)) (hl : ∃ S, callD t k L [.fl (ns.map D.int)] [] = .ok (.bl true) S) :
    spD F 1 (callD t k L) [.ref a] H (fun v _ => v = .bl true) fun _ _ _ => False := by
  obtain ⟨S, hl⟩ := hl
  have key : ∀ ns : List Int, RepL F [] H (ns.map D.int) (ns.map V.int) := fun ns => by
    induction ns with
    | nil => rfl
    | cons n ns ih => exact ⟨_, _, rfl, rfl, ih⟩
  refine ⟨rfl, [], [], [.fl (ns.map D.int)], ⟨rfl, by simp, fun n o b e => by simp at e⟩, ⟨_, _, rfl, ⟨a, _, rfl, ?_, key ns⟩, rfl⟩, ?_⟩
  · rcases h with z | z
    · exact .inl ⟨by simp, z⟩
    · exact .inr z
  · rw [hl]
    exact fun μ' H' v _ _ rv => rv
end Ev
end
section
set_option Elab.async false
set_option linter.all false
set_option maxRecDepth 100000
set_option maxHeartbeats 4000000
set_option autoImplicit false
/-! Ev, part S: the tables of a law, what its written part must say. -/
namespace Ev
open PySem PySem.Spec PyProof.Rows L2

/-- an exception class that has an own __init__ of one field -/
structure Ini where
  c : Nat
  f : Nat
  sn : Str
  pn : Str
/-- the tables as lists -/
structure Tl where
  tb : Tb
  gv : List D
  sub : List (Nat × Nat)
  val : List Nat
  icl : List Nat
  exc : List Nat
  /-- the class, the attribute -/
  fld : List (Nat × Nat)
  mth : List (Nat × Nat × Nat)
  ini : List (Nat × Nat)
  xin : List Ini
  defs : List Df
def xfsOf : List Ini → Nat → List Nat
  | [], _ => []
  | q :: r, c => if q.c = c then [q.f] else xfsOf r c
def Tl.ct (l : Tl) : Ct where
  glb g := l.gv.getD g .non
  sub c d := l.sub.contains (c, d)
  val c := l.val.contains c
  icl c := l.icl.contains c
  exc c := l.exc.contains c
  fld c f := l.fld.contains (c, f)
  mth c m := (l.mth.find? fun q => q.1 == c && q.2.1 == m).map (·.2.2)
  ini c := (l.ini.find? fun q => q.1 == c).map (·.2)
  xfs c := xfsOf l.xin c
  defs f := l.defs[f]?
def clNm (l : Tl) (c : Nat) : Str := l.tb.cl.getD c ""
def clA (l : Tl) (K : PySem.W.Frag) (c : Nat) : Addr := He.ga K (clNm l c)
def fxOf (l : Tl) (K : PySem.W.Frag) (nd : l.tb.an.Nodup) : Fx := { K := K, ca := clA l K, an := l.tb.an, nd := nd }
def atN (l : Tl) (f : Nat) : Str := l.tb.an.getD f ""
/-! ### constants -/
mutual
def valB (K : PySem.W.Frag) : D → Value → Bool
  | .non, u => decide (u = .none)
  | .bl b, u => decide (u = .bool b)
  | .int i, u => (match u with
    | .int j _ => decide (i = j)
    | _ => false)
  | .str cs, u => (match u with
    | .str x _ => decide (x = mkS cs)
    | _ => false)
  | .ft ds, u => (match u with
    | .ref a => (match K.lookup a with
      | some ⟨.type "tuple", _, .seq its _, _⟩ => decide (its.size ≤ 1000) && valsB K ds its.toList
      | _ => false)
    | _ => false)
  | _, _ => false
def valsB (K : PySem.W.Frag) : List D → List Value → Bool
  | [], [] => true
  | d :: ds, u :: us => valB K d u && valsB K ds us
  | _, _ => false
end
mutual
theorem valB_ok {F : Fx} : ∀ (d : D) (u : Value), valB F.K d u = true → ∃ v, RelV v u ∧ ∀ μ H, Rep F μ H d v
  | .non, u, h => by cases of_decide_eq_true h; exact ⟨.non, rfl, fun _ _ => rfl⟩
  | .bl b, u, h => by cases of_decide_eq_true h; exact ⟨.bl b, rfl, fun _ _ => rfl⟩
  | .int i, u, h => by
    unfold valB at h
    split at h
    · cases of_decide_eq_true h; exact ⟨.int i, ⟨_, rfl⟩, fun _ _ => rfl⟩
    · cases h
  | .str cs, u, h => by
    unfold valB at h
    split at h
    · cases of_decide_eq_true h; exact ⟨.str _, ⟨_, rfl⟩, fun _ _ => rfl⟩
    · cases h
  | .ft ds, u, h => by
    unfold valB at h
    split at h
    · rename_i a
      split at h
      · rename_i od its n sl hl
        obtain ⟨h1, h2⟩ := and2 h
        obtain ⟨vs, r1, r2⟩ := valsB_ok ds its.toList h2
        refine ⟨.ref a, rfl, fun μ H => ⟨a, vs, rfl, .inr ⟨_, its, n, hl, rfl, rfl, ?_, r1⟩, r2 μ H⟩⟩
        have := of_decide_eq_true h1
        rw [sizeLine_eq]; omega
      · cases h
    · cases h
  | .tup _, _, h => by unfold valB at h; cases h
  | .lst _, _, h => by unfold valB at h; cases h
  | .fl _, _, h => by unfold valB at h; cases h
  | .dk _ _, _, h => by unfold valB at h; cases h
  | .dt _ _, _, h => by unfold valB at h; cases h
  | .ins _ _ _, _, h => by unfold valB at h; cases h
  | .ref _, _, h => by unfold valB at h; cases h
  | .cls _, _, h => by unfold valB at h; cases h
theorem valsB_ok {F : Fx} : ∀ (ds : List D) (us : List Value), valsB F.K ds us = true → ∃ vs, Vals vs us ∧ ∀ μ H, RepL F μ H ds vs
  | [], [], _ => ⟨[], .nil, fun _ _ => rfl⟩
  | d :: ds, u :: us, h => by
    obtain ⟨h1, h2⟩ := and2 (show (valB F.K d u && valsB F.K ds us) = true from h)
    obtain ⟨v, a1, a2⟩ := valB_ok d u h1
    obtain ⟨vs, b1, b2⟩ := valsB_ok ds us h2
    exact ⟨v :: vs, .cons a1 b1, fun μ H => ⟨v, vs, rfl, a2 μ H, b2 μ H⟩⟩
  | [], _ :: _, h => nomatch h
  | _ :: _, [], h => nomatch h
end
def glB' (K : PySem.W.Frag) (x : Str) (d : D) : Bool := match PySem.W.nsIn K mainGlobals x with
  | some (some u) => valB K d u
  | _ => false
def glsB (K : PySem.W.Frag) : List Str → List D → Bool
  | [], _ => true
  | x :: xs, d :: ds => glB' K x d && glsB K xs ds
  | _ :: _, [] => false
def clsFB (K : PySem.W.Frag) (C : Addr) : Bool := PySem.W.plainGet K C Str.empty && PySem.W.hasDictIn K C && PySem.W.plainOver K C && decide (PySem.W.findIn K (.ref C) "__setattr__" = some (some (.builtin "object.__setattr__"))) &&
  decide (PySem.W.findIn K (.ref C) "__class__" = some (some (.builtin "object.__class__"))) && decide (PySem.W.specialIn K (.builtin "object.__class__") "__get__" = some (some (.builtin "getset_descriptor.__get__"))) &&
  decide (PySem.W.takesIn K (.builtin "object.__class__") = some true) && decide (PySem.W.mroIn K C (.type "object") = some true)
def excCB (K : PySem.W.Frag) (D : Addr) : Bool := decide (PySem.W.findIn K (.ref D) "__getattribute__" = some (some (.builtin "BaseException.__getattribute__"))) && decide (PySem.W.findIn K (.ref D) "__getattr__" = some none) &&
  decide (PySem.W.subIn K (.ref D) (.type "BaseException") = some true) && PySem.W.hasDictIn K D && decide (PySem.W.findIn K (.ref D) "__class__" = some (some (.builtin "object.__class__"))) &&
  decide (PySem.W.specialIn K (.builtin "object.__class__") "__get__" = some (some (.builtin "getset_descriptor.__get__"))) && decide (PySem.W.takesIn K (.builtin "object.__class__") = some true) && decide (PySem.W.mroIn K D (.type "object") = some true)
def rz0B (K : PySem.W.Frag) (C : Addr) : Bool := PySem.W.excIn K C He.veBase "ValueError.__new__" && PySem.W.keepIn K (.ref C) && decide (PySem.W.subIn K (.ref C) (.type "BaseException") = some true) && decide (PySem.W.typeIn K (.ref C) = some (.type "type"))
def oexB (K : PySem.W.Frag) (C : Addr) : Bool := (match K.lookup C with
    | some ⟨.type "type", _, .cls ⟨_, _, .ref C' :: bm, _, _, hd, _, _, _, _, hdel⟩, ⟨[_, _, _, _, some (.builtin n), _]⟩⟩ => decide (C' = C) && decide (n = "ValueError.__new__") && hd && !hdel && PySem.HandSPX.refsVE bm
    | _ => false) && decide (PySem.W.findIn K (.ref C) "__setattr__" = some (some (.builtin "object.__setattr__"))) && decide (PySem.W.subIn K (.ref C) (.type "BaseException") = some true) && decide (PySem.W.typeIn K (.ref C) = some (.type "type")) && PySem.W.keepIn K (.ref C)
theorem oexB_ok {K : PySem.W.Frag} {C : Addr} (h : oexB K C = true) : OexC K C := by
  obtain ⟨h, h1⟩ := and2 h
  obtain ⟨h, h2⟩ := and2 h
  obtain ⟨h, h3⟩ := and2 h
  obtain ⟨h4, h5⟩ := and2 h
  refine ⟨?_, of_decide_eq_true h5, of_decide_eq_true h3, of_decide_eq_true h2, h1⟩
  split at h4
  · rename_i dd nm bs C' bm N qn hd sn sub ab col hdel k0 k1 k2 k3 n k5 hl
    obtain ⟨h, a1⟩ := and2 h4
    obtain ⟨h, a2⟩ := and2 h
    obtain ⟨h, a3⟩ := and2 h
    obtain ⟨a4, a5⟩ := and2 h
    cases of_decide_eq_true a4
    cases of_decide_eq_true a5
    cases a3
    cases hdel with
    | true => cases a2
    | false => exact ⟨nm, qn, N, bs, bm, sn, sub, ab, col, dd, k0, k1, k2, k3, k5, hl, a1⟩
  · cases h4
/-- C may be made, its __init__ a def of the text -/
def mkB (K : PySem.W.Frag) (C : Addr) : Bool := PySem.W.makesIn K C && decide (PySem.W.findIn K (.ref C) "__init__" = some (some (.ref (He.ma K C "__init__")))) && PySem.W.isFn K (.ref (He.ma K C "__init__")) && PySem.W.keepIn K (.ref C)
def mtB (K : PySem.W.Frag) (C : Addr) (m : Str) : Bool := clsFB K C && decide (PySem.W.findIn K (.ref C) m = some (some (.ref (He.ma K C m)))) && PySem.W.isFn K (.ref (He.ma K C m)) && PySem.W.keepIn K (.ref (He.ma K C m))
/-- nothing stands ahead of an own == -/
def eqoB (l : Tl) (K : PySem.W.Frag) : Bool := l.mth.all fun q => !decide (atN l q.2.1 = "__eq__") || ((["NoneType", "bool", "int", "str", "tuple", "list", "dict"].all fun n => PySem.W.notFirst K (clA l K q.1) (.type n)) && l.icl.all fun d => PySem.W.notFirst K (clA l K q.1) (.ref (clA l K d)))
/-- own classes -/
def ownB (l : Tl) (K : PySem.W.Frag) : Bool := (l.ini.all fun q => mkB K (clA l K q.1)) && (l.mth.all fun q => mtB K (clA l K q.1) (atN l q.2.1) && decide (q.2.1 < l.tb.an.length))
/-- all that the written part must say -/
def gkB (l : Tl) (K : PySem.W.Frag) : Bool := eqoB l K &&
  (bltN.all fun x => decide (PySem.W.nsIn K mainGlobals x = some none)) && glsB K l.tb.gl l.gv &&
  (l.tb.cl.all fun x => decide (PySem.W.nsIn K mainGlobals x = some (some (.ref (He.ga K x))))) &&
  (l.fld.all fun q => clsFB K (clA l K q.1) && decide (PySem.W.findIn K (.ref (clA l K q.1)) (atN l q.2) = some none) && decide (q.2 < l.tb.an.length)) &&
  (l.icl.all fun c => clsFB K (clA l K c) && (l.icl.all fun d => decide (PySem.W.kitOne K (.ref (clA l K c)) (.ref (clA l K d)) = some (l.sub.contains (c, d)))) &&
    (["int", "bool", "str", "list", "tuple", "dict"].all fun T => decide (PySem.W.kitOne K (.ref (clA l K c)) (.type T) = some false)) &&
    (["NoneType", "bool", "int", "str", "tuple", "list", "dict"].all fun n => decide (PySem.W.kitOne K (.type n) (.ref (clA l K c)) = some false))) &&
  (l.exc.all fun c => excCB K (clA l K c) && (l.exc.all fun d => decide (PySem.W.kitOne K (.ref (clA l K c)) (.ref (clA l K d)) = some (l.sub.contains (c, d))) && decide (PySem.W.exmOne K (.ref (clA l K c)) (.ref (clA l K d)) = some (l.sub.contains (c, d)))) &&
    decide (PySem.W.kitOne K (.ref (clA l K c)) (.type "ValueError") = some (l.val.contains c)) && decide (PySem.W.exmOne K (.ref (clA l K c)) (.type "ValueError") = some (l.val.contains c)) &&
    ((l.xin.any fun q => q.c == c) || rz0B K (clA l K c))) &&
  (l.xin.all fun q => xfB K (clA l K q.c) && oexB K (clA l K q.c) && decide (PySem.W.findIn K (.ref (clA l K q.c)) (atN l q.f) = some none) && decide (q.f < l.tb.an.length) &&
    decide (PySem.W.findIn K (.ref (clA l K q.c)) "__init__" = some (some (.ref (He.ma K (clA l K q.c) "__init__")))) && decide (PySem.W.typeIn K (.ref (He.ma K (clA l K q.c) "__init__")) = some (.type "function")))
theorem mkB_ok {K : PySem.W.Frag} {C : Addr} (h : mkB K C = true) : Mk K C (He.ma K C "__init__") := by
  obtain ⟨h, h1⟩ := and2 h
  obtain ⟨h, h2⟩ := and2 h
  obtain ⟨h3, h4⟩ := and2 h
  exact ⟨h3, of_decide_eq_true h4, h2, h1⟩
theorem glsB_ok {K : PySem.W.Frag} : ∀ {xs : List Str} {ds : List D} {g : Nat} {x : Str}, glsB K xs ds = true → xs[g]? = some x → glB' K x (ds.getD g .non) = true
  | y :: ys, d :: ds, 0, x, h, e => by
    cases e
    exact (and2 h).1
  | y :: ys, d :: ds, g + 1, x, h, e => by
    have := glsB_ok (g := g) (and2 h).2 (by simpa using e)
    simpa using this
  | [], _, _, _, _, e => by simp at e
  | _ :: _, [], _, _, h, _ => nomatch h
theorem clsFB_ok {K : PySem.W.Frag} {C : Addr} (h : clsFB K C = true) : ClsF K C := by
  obtain ⟨h, h1⟩ := and2 h
  obtain ⟨h, h2⟩ := and2 h
  obtain ⟨h, h3⟩ := and2 h
  obtain ⟨h, h4⟩ := and2 h
  obtain ⟨h, h5⟩ := and2 h
  obtain ⟨h, h6⟩ := and2 h
  obtain ⟨h7, h8⟩ := and2 h
  exact ⟨⟨h7, h8, h6, of_decide_eq_true h5⟩, of_decide_eq_true h4, of_decide_eq_true h3, of_decide_eq_true h2, of_decide_eq_true h1⟩
theorem excCB_ok {K : PySem.W.Frag} {C : Addr} (h : excCB K C = true) : ExcC K C := by
  obtain ⟨h, h1⟩ := and2 h
  obtain ⟨h, h2⟩ := and2 h
  obtain ⟨h, h3⟩ := and2 h
  obtain ⟨h, h4⟩ := and2 h
  obtain ⟨h, h5⟩ := and2 h
  obtain ⟨h, h6⟩ := and2 h
  obtain ⟨h7, h8⟩ := and2 h
  exact ⟨of_decide_eq_true h7, of_decide_eq_true h8, of_decide_eq_true h6, h5, of_decide_eq_true h4, of_decide_eq_true h3, of_decide_eq_true h2, of_decide_eq_true h1⟩
theorem con_mem {α : Type} [BEq α] [LawfulBEq α] {l : List α} {a : α} (h : l.contains a = true) : a ∈ l := by simpa using h
theorem xfs_mem : ∀ {l : List Ini} {c f : Nat}, (xfsOf l c).contains f = true → ∃ q ∈ l, q.c = c ∧ q.f = f
  | [], _, _, h => by simp [xfsOf] at h
  | q :: r, c, f, h => by
    unfold xfsOf at h
    split at h
    · rename_i e
      exact ⟨q, List.mem_cons_self, e, by simpa using (by simpa using h : f = q.f).symm⟩
    · obtain ⟨p, h1, h2⟩ := xfs_mem h
      exact ⟨p, List.mem_cons_of_mem _ h1, h2⟩
theorem xfs_nil : ∀ {l : List Ini} {c : Nat}, xfsOf l c = [] → (l.any fun q => q.c == c) = false
  | [], _, _ => rfl
  | q :: r, c, h => by
    unfold xfsOf at h
    split at h
    · cases h
    · rename_i e
      show (q.c == c || r.any fun q => q.c == c) = false
      rw [xfs_nil h]
      simp [e]
theorem mtB_ok {K : PySem.W.Frag} {C : Addr} {m : Str} (h : mtB K C m = true) : Cls K C ∧ Meth K C m (He.ma K C m) := by
  obtain ⟨h, h1⟩ := and2 h
  obtain ⟨h, h2⟩ := and2 h
  obtain ⟨h3, h4⟩ := and2 h
  exact ⟨(clsFB_ok h3).cls, of_decide_eq_true h4, h2, h1⟩
theorem ini_mem {l : Tl} {c f : Nat} (h : l.ct.ini c = some f) : (c, f) ∈ l.ini := by
  obtain ⟨q, h1, h2⟩ := Option.map_eq_some_iff.mp (show (l.ini.find? fun q => q.1 == c).map (·.2) = some f from h)
  have h3 := List.mem_of_find?_eq_some h1
  have h4 := List.find?_some h1
  have e : q.1 = c := by simpa using h4
  have : q = (c, f) := by rw [← e, ← h2]
  rwa [this] at h3
theorem mth_mem {l : Tl} {c m f : Nat} (h : l.ct.mth c m = some f) : (c, m, f) ∈ l.mth := by
  obtain ⟨q, h1, h2⟩ := Option.map_eq_some_iff.mp (show (l.mth.find? fun q => q.1 == c && q.2.1 == m).map (·.2.2) = some f from h)
  have h3 := List.mem_of_find?_eq_some h1
  have h4 := List.find?_some h1
  have e : q.1 = c ∧ q.2.1 = m := by simpa using h4
  have : q = (c, m, f) := by rw [← e.1, ← e.2, ← h2]
  rwa [this] at h3
/-- the defs of the text, from the written part -/
theorem dfs_of {l : Tl} {K : PySem.W.Frag} {mg : Str → Option Value} {nd : l.tb.an.Nodup} (b : ownB l K = true) (fn : ∀ f x, l.tb.fn[f]? = some x → ∃ fa, mg x = some (.ref fa) ∧ DefOk K l.ct l.tb f fa)
    (ini : ∀ q ∈ l.ini, DefOk K l.ct l.tb q.2 (He.ma K (clA l K q.1) "__init__")) (mth : ∀ q ∈ l.mth, DefOk K l.ct l.tb q.2.2 (He.ma K (clA l K q.1) (atN l q.2.1))) : Dfs (fxOf l K nd) l.ct l.tb mg := by
  obtain ⟨b1, b2⟩ := and2 b
  refine ⟨fn, fun c f h => ?_, fun c m f h => ?_⟩
  · have hm := ini_mem h
    exact ⟨_, mkB_ok (List.all_eq_true.mp b1 _ hm), ini _ hm⟩
  · have hm := mth_mem h
    obtain ⟨z, z1⟩ := and2 (List.all_eq_true.mp b2 _ hm)
    obtain ⟨c1, c2⟩ := mtB_ok z
    exact ⟨of_decide_eq_true z1, _, c1, c2, mth _ hm⟩
section
variable {l : Tl} {K : PySem.W.Frag} {h : Heap} {mg : Str → Option Value} {nd : l.tb.an.Nodup}
theorem gk_of (X : K.In h) (G : h.Ns mainGlobals mg) (b : gkB l K = true) : Gk K (fxOf l K nd) l.ct l.tb mg := by
  obtain ⟨b, b1⟩ := and2 b
  obtain ⟨b, b2⟩ := and2 b
  obtain ⟨b, b3⟩ := and2 b
  obtain ⟨b, b4⟩ := and2 b
  obtain ⟨b, b5⟩ := and2 b
  obtain ⟨b, b7⟩ := and2 b
  obtain ⟨b0, b6⟩ := and2 b
  have I := fun c hc => List.all_eq_true.mp b3 c (con_mem hc)
  have E := fun c hc => List.all_eq_true.mp b2 c (con_mem hc)
  have fl := fun q hq => List.all_eq_true.mp b4 q hq
  have xi := fun q hq => List.all_eq_true.mp b1 q hq
  refine ⟨rfl, rfl, fun x hx => ?_, fun g x hx => ?_, fun c x hx => ?_, fun C f hf => ?_, fun C hC => ?_, fun C c hC hc => ?_, fun C T hC hT => ?_, fun n c hc hn => ?_, fun c f hf => ?_, fun c hc => ?_, fun c d hc hd => ?_, fun c m f hnm hf => ?_, fun c hc => ?_⟩
  · exact PySem.W.mg_none_of X G (of_decide_eq_true (List.all_eq_true.mp b6 x hx))
  · have q := glsB_ok b7 hx
    unfold glB' at q
    split at q
    · rename_i u hu
      obtain ⟨v, r1, r2⟩ := valB_ok (F := fxOf l K nd) _ u q
      exact ⟨v, u, PySem.W.mg_of X G hu, r1, r2⟩
    · cases q
  · have q := List.all_eq_true.mp b5 x (List.mem_of_getElem? hx)
    have e : clNm l c = x := by
      unfold clNm
      rw [List.getD_eq_getElem?_getD, hx]; rfl
    show mg x = some (.ref (He.ga K (clNm l c)))
    rw [e]
    exact PySem.W.mg_of X G (of_decide_eq_true q)
  · obtain ⟨q, q1⟩ := and2 (fl _ (con_mem hf))
    obtain ⟨q2, q3⟩ := and2 q
    have n : PySem.W.findIn K (.ref (clA l K C)) (atN l f) = some none := of_decide_eq_true q3
    exact ⟨(clsFB_ok q2).cls, n, of_decide_eq_true q1⟩
  · obtain ⟨q, _⟩ := and2 (I C hC)
    obtain ⟨q, _⟩ := and2 q
    exact clsFB_ok (and2 q).1
  · obtain ⟨q, _⟩ := and2 (I C hC)
    obtain ⟨q, _⟩ := and2 q
    exact of_decide_eq_true (List.all_eq_true.mp (and2 q).2 c (con_mem hc))
  · obtain ⟨q, _⟩ := and2 (I C hC)
    exact of_decide_eq_true (List.all_eq_true.mp (and2 q).2 T hT)
  · exact of_decide_eq_true (List.all_eq_true.mp (and2 (I c hc)).2 n hn)
  · obtain ⟨q, hq, rfl, rfl⟩ := xfs_mem hf
    have z := xi q hq
    obtain ⟨z, _⟩ := and2 z
    obtain ⟨z, _⟩ := and2 z
    obtain ⟨z, z1⟩ := and2 z
    obtain ⟨z, z2⟩ := and2 z
    exact ⟨xfB_ok (and2 z).1, of_decide_eq_true z2, of_decide_eq_true z1⟩
  · obtain ⟨q, _⟩ := and2 (E c hc)
    obtain ⟨q, _⟩ := and2 q
    obtain ⟨q, _⟩ := and2 q
    exact excCB_ok (and2 q).1
  · obtain ⟨q, _⟩ := and2 (E c hc)
    obtain ⟨q, _⟩ := and2 q
    obtain ⟨q, _⟩ := and2 q
    obtain ⟨z1, z2⟩ := and2 (List.all_eq_true.mp (and2 q).2 d (con_mem hd))
    exact ⟨of_decide_eq_true z1, of_decide_eq_true z2⟩
  · have q := List.all_eq_true.mp b0 _ (mth_mem hf)
    have hn : atN l m = "__eq__" := hnm
    have hd : decide (atN l m = "__eq__") = true := decide_eq_true hn
    have q2 : ((["NoneType", "bool", "int", "str", "tuple", "list", "dict"].all fun n => PySem.W.notFirst K (clA l K c) (.type n)) && l.icl.all fun d => PySem.W.notFirst K (clA l K c) (.ref (clA l K d))) = true := by
      have q' : (!decide (atN l m = "__eq__") || ((["NoneType", "bool", "int", "str", "tuple", "list", "dict"].all fun n => PySem.W.notFirst K (clA l K c) (.type n)) && l.icl.all fun d => PySem.W.notFirst K (clA l K c) (.ref (clA l K d)))) = true := q
      rw [hd] at q'
      exact q'
    obtain ⟨z1, z2⟩ := and2 q2
    exact ⟨fun n hn => List.all_eq_true.mp z1 n hn, fun d hd => List.all_eq_true.mp z2 d (con_mem hd)⟩
  · obtain ⟨q, _⟩ := and2 (E c hc)
    obtain ⟨q, z1⟩ := and2 q
    obtain ⟨q, z2⟩ := and2 q
    exact ⟨of_decide_eq_true z2, of_decide_eq_true z1⟩
theorem rz_of {P : Program} {w : World} {base : Heap} {C : Orc} {k : Nat} (b : gkB l K = true) (xi : ∀ q ∈ l.xin, ∃ fd, FnOk P w K mg base (L2.CX P w) 1 (He.ma K (clA l K q.c) "__init__") fd [q.sn, q.pn] (spI1 K (atN l q.f)) ∧ Binds K fd [q.sn, q.pn] []) :
    Rz ⟨fxOf l K nd, l.ct, C, k, P, w, mg, base, l.tb⟩ := by
  obtain ⟨b, b1⟩ := and2 b
  obtain ⟨b, b2⟩ := and2 b
  have E := fun c hc => List.all_eq_true.mp b2 c (con_mem hc)
  refine ⟨fun c hc hx => ?_, fun c f hc hx => ?_⟩
  · obtain ⟨_, q⟩ := and2 (E c hc)
    rw [xfs_nil hx] at q
    obtain ⟨q, q1⟩ := and2 (show rz0B K (clA l K c) = true from q)
    obtain ⟨q, q2⟩ := and2 q
    obtain ⟨q3, q4⟩ := and2 q
    exact ⟨_, _, _, _, PySem.F.excBase_ValueError, q3, q4, of_decide_eq_true q2, of_decide_eq_true q1⟩
  · have hm : (xfsOf l.xin c).contains f = true := by
      have e : xfsOf l.xin c = [f] := hx
      rw [e]; simp
    obtain ⟨q, hq, rfl, rfl⟩ := xfs_mem hm
    have z := List.all_eq_true.mp b1 q hq
    obtain ⟨z, z1⟩ := and2 z
    obtain ⟨z, z2⟩ := and2 z
    obtain ⟨z, z3⟩ := and2 z
    obtain ⟨z, z4⟩ := and2 z
    obtain ⟨fd, F1, hb⟩ := xi q hq
    exact ⟨oexB_ok (and2 z).2, _, fd, q.sn, q.pn, of_decide_eq_true z2, of_decide_eq_true z1, F1, hb, of_decide_eq_true z4, of_decide_eq_true z3⟩
end
end Ev
end
section
set_option Elab.async false
set_option linter.all false
set_option maxRecDepth 100000
set_option maxHeartbeats 4000000
set_option autoImplicit false
/-! Ev, part X: lemmas to evaluate by. -/
namespace Ev
open PySem PySem.Spec PyProof.Rows L2

@[simp] theorem prim_ok' {α : Type} (a : α) (S : List O) : (R.ok a S).prim = .ok a S := rfl
@[simp] theorem prim_bad' {α : Type} : (R.bad : R α).prim = .bad := rfl
theorem prim_ite {α : Type} {c : Prop} [Decidable c] {a b : R α} : (if c then a else b).prim = if c then a.prim else b.prim := by split <;> rfl
@[simp] theorem fl_ok {α : Type} (a : α) (S : List O) (ρ : Env') (k : α → List O → Fl) : (R.ok a S).fl ρ k = k a S := rfl
@[simp] theorem fl_ex {α : Type} (x : Exn) (S : List O) (ρ : Env') (k : α → List O → Fl) : (R.ex x S).fl ρ k = .ex x ρ S := rfl
@[simp] theorem fl_bad {α : Type} (ρ : Env') (k : α → List O → Fl) : (R.bad : R α).fl ρ k = .bad := rfl
@[simp] theorem fb_nx (ρ : Env') (S : List O) (k : Env' → List O → Fl) : (Fl.nx ρ S).bind k = k ρ S := rfl
@[simp] theorem fb_rt (d : D) (S : List O) (k : Env' → List O → Fl) : (Fl.rt d S).bind k = .rt d S := rfl
@[simp] theorem fb_ex (x : Exn) (ρ : Env') (S : List O) (k : Env' → List O → Fl) : (Fl.ex x ρ S).bind k = .ex x ρ S := rfl
@[simp] theorem fb_bad (k : Env' → List O → Fl) : (Fl.bad).bind k = .bad := rfl
@[simp] theorem map_ok {α β : Type} (f : α → β) (a : α) (S : List O) : (R.ok a S).map f = .ok (f a) S := rfl
@[simp] theorem map_ex {α β : Type} (f : α → β) (a : Exn) (S : List O) : (R.ex a S).map f = .ex a S := rfl
@[simp] theorem map_bad {α β : Type} (f : α → β) : (R.bad : R α).map f = .bad := rfl
@[simp] theorem nox_nx (ρ : Env') (S : List O) : (Fl.nx ρ S).nox = .nx ρ S := rfl
@[simp] theorem nox_rt (d : D) (S : List O) : (Fl.rt d S).nox = .rt d S := rfl
/-- a def's body has run -/
def fin : Fl → R D
  | .nx _ S' => .ok .non S'
  | .rt v S' => .ok v S'
  | .ex x _ S' => .ex x S'
  | .bad => .bad
@[simp] theorem fin_nx (ρ : Env') (S : List O) : fin (.nx ρ S) = .ok .non S := rfl
@[simp] theorem fin_rt (d : D) (S : List O) : fin (.rt d S) = .ok d S := rfl
@[simp] theorem fin_ex (x : Exn) (ρ : Env') (S : List O) : fin (.ex x ρ S) = .ex x S := rfl
theorem runD_gc {t : Ct} {C : Orc} {np nn : Nat} {b : Ss} {ds : List D} {S : List O} (h : ds.length = np) :
    runD t C ⟨np, nn, false, b⟩ ds S = gcR S (fin (evSs t C b none (ds.map some ++ List.replicate (nn - ds.length) none) S)) := by
  unfold runD
  rw [if_pos h]
  show (if false = true then _ else gcR S _) = _
  rw [if_neg (by decide)]
  rfl
theorem runD_raw {t : Ct} {C : Orc} {np nn : Nat} {b : Ss} {ds : List D} {S : List O} (h : ds.length = np) :
    runD t C ⟨np, nn, true, b⟩ ds S = fin (evSs t C b none (ds.map some ++ List.replicate (nn - ds.length) none) S) := by
  unfold runD
  rw [if_pos h]
  show (if true = true then _ else gcR S _) = _
  rw [if_pos rfl]
  cases evSs t C b none (ds.map some ++ List.replicate (nn - ds.length) none) S <;> rfl

/-! ### values told as they are -/
mutual
/-- no handle within -/
def nrD : D → Bool
  | .tup ds | .lst ds | .fl ds | .ft ds | .dk _ ds | .dt _ ds | .ins _ _ ds => nrL ds
  | .ref _ => false
  | _ => true
def nrL : List D → Bool
  | [] => true
  | d :: ds => nrD d && nrL ds
end
@[simp] theorem nr_non : nrD .non = true := id rfl
@[simp] theorem nr_bl (b : Bool) : nrD (.bl b) = true := id rfl
@[simp] theorem nr_int (i : Int) : nrD (.int i) = true := id rfl
@[simp] theorem nr_str (cs : List Nat) : nrD (.str cs) = true := id rfl
@[simp] theorem nr_tup (ds : List D) : nrD (.tup ds) = nrL ds := id rfl
@[simp] theorem nr_lst (ds : List D) : nrD (.lst ds) = nrL ds := id rfl
@[simp] theorem nr_fl (ds : List D) : nrD (.fl ds) = nrL ds := id rfl
@[simp] theorem nr_ft (ds : List D) : nrD (.ft ds) = nrL ds := id rfl
@[simp] theorem nr_dk (ks : List Key) (ds : List D) : nrD (.dk ks ds) = nrL ds := id rfl
@[simp] theorem nrL_nil : nrL [] = true := id rfl
@[simp] theorem nrL_cons (d : D) (ds : List D) : nrL (d :: ds) = (nrD d && nrL ds) := id rfl
theorem nrL_all : ∀ {ds : List D}, (∀ d ∈ ds, nrD d = true) → nrL ds = true
  | [], _ => rfl
  | d :: ds, h => by rw [nrL_cons, h d List.mem_cons_self, nrL_all fun e he => h e (List.mem_cons_of_mem _ he)]; rfl
@[simp] theorem nrL_map {α : Type} {f : α → D} {xs : List α} (h : ∀ x, nrD (f x) = true) : nrL (xs.map f) = true := nrL_all fun d hd => by
  obtain ⟨x, _, rfl⟩ := List.mem_map.mp hd
  exact h x
mutual
theorem nr_cl {n : Nat} : ∀ d : D, nrD d = true → clD n d = true
  | .non, _ => rfl
  | .bl _, _ => rfl
  | .int _, _ => rfl
  | .str _, _ => rfl
  | .cls _, _ => rfl
  | .tup ds, h => nr_clL ds h
  | .lst ds, h => nr_clL ds h
  | .fl ds, h => nr_clL ds h
  | .ft ds, h => nr_clL ds h
  | .dk _ ds, h => nr_clL ds h
  | .dt _ ds, h => nr_clL ds h
  | .ins _ _ ds, h => nr_clL ds h
  | .ref _, h => nomatch h
theorem nr_clL {n : Nat} : ∀ ds : List D, nrL ds = true → clL n ds = true
  | [], _ => rfl
  | d :: ds, h => by
    obtain ⟨h1, h2⟩ := and2 (show (nrD d && nrL ds) = true from h)
    show (clD n d && clL n ds) = true
    rw [nr_cl d h1, nr_clL ds h2]; rfl
end
mutual
theorem frz_id {n : Nat} {g : Nat → Option D} (hg : ∀ m, m < n → g m = some (.ref m)) : ∀ d : D, clD n d = true → frzD g d = some d
  | .non, _ => rfl
  | .bl _, _ => rfl
  | .int _, _ => rfl
  | .str _, _ => rfl
  | .cls _, _ => rfl
  | .tup ds, h => by show (frzL g ds).map _ = _; rw [frz_idL hg ds h]; rfl
  | .lst ds, h => by show (frzL g ds).map _ = _; rw [frz_idL hg ds h]; rfl
  | .fl ds, h => by show (frzL g ds).map _ = _; rw [frz_idL hg ds h]; rfl
  | .ft ds, h => by show (frzL g ds).map _ = _; rw [frz_idL hg ds h]; rfl
  | .dk _ ds, h => by show (frzL g ds).map _ = _; rw [frz_idL hg ds h]; rfl
  | .dt _ ds, h => by show (frzL g ds).map _ = _; rw [frz_idL hg ds h]; rfl
  | .ins _ _ ds, h => by show (frzL g ds).map _ = _; rw [frz_idL hg ds h]; rfl
  | .ref m, h => hg m (of_decide_eq_true h)
theorem frz_idL {n : Nat} {g : Nat → Option D} (hg : ∀ m, m < n → g m = some (.ref m)) : ∀ ds : List D, clL n ds = true → frzL g ds = some ds
  | [], _ => rfl
  | d :: ds, h => by
    obtain ⟨h1, h2⟩ := and2 (show (clD n d && clL n ds) = true from h)
    show (frzD g d).bind _ = _
    rw [frz_id hg d h1]
    show (frzL g ds).map _ = _
    rw [frz_idL hg ds h2]; rfl
end
theorem frzN_old {n : Nat} {S : List O} : ∀ (k m : Nat), m < n → frzN n S k m = some (.ref m)
  | 0, m, h => if_pos h
  | k + 1, m, h => if_pos h
theorem gcOk_set {S S' T : List O} (hl : S'.length = S.length) (h : ∀ n, n < S.length → S'[n]? = S[n]? ∨ ∃ o, S'[n]? = some o ∧ clO S.length o = true) : gcOk S (S' ++ T) :=
  ⟨by simp [hl], fun n hn => by rw [List.getElem?_append_left (by omega)]; exact h n hn⟩
/-- what was made is left behind -/
theorem gcR_app {S S' T : List O} {d d' : D} (hl : S'.length = S.length) (h : ∀ n, n < S.length → S'[n]? = S[n]? ∨ ∃ o, S'[n]? = some o ∧ clO S.length o = true)
    (hf : frzD (frzN S.length (S' ++ T) 6) d = some d') : gcR S (.ok d (S' ++ T)) = .ok d' S' := by
  unfold gcR
  dsimp only
  rw [if_pos (gcOk_set hl h), hf]
  dsimp only
  rw [← hl, List.take_left]
theorem gcR_keep {S T : List O} {d d' : D} (hf : frzD (frzN S.length (S ++ T) 6) d = some d') : gcR S (.ok d (S ++ T)) = .ok d' S := gcR_app rfl (fun _ _ => .inl rfl) hf
theorem gcR_val {S T : List O} {d : D} (h : clD S.length d = true) : gcR S (.ok d (S ++ T)) = .ok d S := gcR_keep (frz_id (fun m hm => frzN_old 6 m hm) d h)
theorem gcR_ok {S : List O} {d : D} (h : clD S.length d = true) : gcR S (.ok d S) = .ok d S := by
  have := gcR_val (S := S) (T := []) h
  simpa using this
theorem gcR_nr {S : List O} {d : D} (h : nrD d = true) : gcR S (.ok d S) = .ok d S := gcR_ok (nr_cl d h)
@[simp] theorem gcR_bl {S : List O} {b : Bool} : gcR S (.ok (.bl b) S) = .ok (.bl b) S := gcR_nr rfl
@[simp] theorem gcR_int {S : List O} {b : Int} : gcR S (.ok (.int b) S) = .ok (.int b) S := gcR_nr rfl
@[simp] theorem gcR_str {S : List O} {b : List Nat} : gcR S (.ok (.str b) S) = .ok (.str b) S := gcR_nr rfl
@[simp] theorem gcR_non {S : List O} : gcR S (.ok .non S) = .ok .non S := gcR_nr rfl
@[simp] theorem gcR_bad {S : List O} : gcR S .bad = .bad := rfl
/-- a list made on the way -/
theorem gcR_lst {S : List O} {ds : List D} (h : clL S.length ds = true) : gcR S (.ok (.ref S.length) (S ++ [.lst ds])) = .ok (.lst ds) S := by
  refine gcR_keep ?_
  show frzN S.length (S ++ [.lst ds]) 6 S.length = _
  unfold frzN
  rw [if_neg (by omega)]
  have : (S ++ [O.lst ds])[S.length]? = some (.lst ds) := by simp
  rw [this]
  show (frzL _ ds).map _ = _
  rw [frz_idL (fun m hm => frzN_old 5 m hm) ds h]
  rfl
/-- objects of the entry changed, what was made left behind -/
theorem gcR_set {S S' T : List O} {d : D} (hl : S'.length = S.length) (h : ∀ n, n < S.length → S'[n]? = S[n]? ∨ ∃ o, S'[n]? = some o ∧ clO S.length o = true) (hd : clD S.length d = true) :
    gcR S (.ok d (S' ++ T)) = .ok d S' := gcR_app hl h (frz_id (fun m hm => frzN_old 6 m hm) d hd)
/-- an error without fields -/
@[simp] theorem gcR_ex {S : List O} {c : Nat} : gcR S (.ex ⟨c, [], []⟩ S) = .ex ⟨c, [], []⟩ S := by
  unfold gcR
  dsimp only
  rw [if_pos ⟨Nat.le_refl _, fun _ _ => .inl rfl⟩]
  show R.ex _ _ = _
  rw [List.take_length]
theorem gcR_ex1 {S : List O} {c f : Nat} {d : D} (h : clD S.length d = true) : gcR S (.ex ⟨c, [f], [d]⟩ S) = .ex ⟨c, [f], [d]⟩ S := by
  unfold gcR
  dsimp only
  rw [if_pos ⟨Nat.le_refl _, fun _ _ => .inl rfl⟩, frz_idL (n := S.length) (fun m hm => frzN_old 6 m hm) [d] (by show (clD _ d && true) = true; rw [h]; rfl)]
  show R.ex _ _ = _
  rw [List.take_length]

theorem cut_take {α : Type} {xs : List α} {p : Nat} (h : p ≤ xs.length) : cutL xs none (some (p : Int)) = xs.take p := by
  unfold cutL
  rw [HT.sIx_none, HT.sIx_nat, List.drop_zero, Nat.sub_zero, Nat.min_eq_left h]
theorem cut_drop {α : Type} {xs : List α} {p : Nat} (h : p ≤ xs.length) : cutL xs (some (p : Int)) none = xs.drop p := by
  unfold cutL
  rw [HT.sIx_none, HT.sIx_nat, Nat.min_eq_left h]
  exact List.take_of_length_le (by simp)
theorem cut_drop1 {α : Type} {xs : List α} {p : Nat} (h : p + 1 ≤ xs.length) : cutL xs (some ((p : Int) + 1)) none = xs.drop (p + 1) := cut_drop (p := p + 1) h
@[simp] theorem addD_int {i j : Int} {S : List O} : addD (.int i) (.int j) S = .ok (.int (i + j)) S := rfl
@[simp] theorem subD_int {i j : Int} {S : List O} : subD (.int i) (.int j) S = .ok (.int (i - j)) S := rfl
@[simp] theorem ordD_int {f : Int → Int → Bool} {i j : Int} {S : List O} : ordD f (.int i) (.int j) S = .ok (.bl (f i j)) S := rfl
@[simp] theorem ltD_int {i j : Int} {S : List O} : ltD (.int i) (.int j) S = .ok (.bl (decide (i < j))) S := rfl
theorem szl : sizeLine = 16777216 := by rw [sizeLine_eq]
theorem add_str {a b : List Nat} {S : List O} (h : a.length + b.length ≤ 10000) : addD (.str a) (.str b) S = .ok (.str (a ++ b)) S := by
  have : a.length + b.length ≤ sizeLine := by rw [szl]; omega
  simp [addD, this]
theorem slc_str {a : List Nat} {lo hi : Option Int} {S : List O} (h : a.length ≤ 10000) : sliceD (.str a) lo hi S = .ok (.str (cutL a lo hi)) S := by
  have : a.length ≤ sizeLine := by rw [szl]; omega
  simp [sliceD, this]
/-! ### == -/
def eqL (a b : List D) : Bool := PyData.eqvAll (pyL a) (pyL b)
@[simp] theorem eq_non : eqD .non .non = true := rfl
@[simp] theorem eq_bl (a b : Bool) : eqD (.bl a) (.bl b) = (a == b) := rfl
@[simp] theorem eq_int (i j : Int) : eqD (.int i) (.int j) = (i == j) := rfl
@[simp] theorem eq_bi (a : Bool) (j : Int) : eqD (.bl a) (.int j) = ((if a then 1 else 0) == j) := rfl
@[simp] theorem eq_ib (i : Int) (b : Bool) : eqD (.int i) (.bl b) = (i == (if b then 1 else 0)) := rfl
@[simp] theorem eq_str (a b : List Nat) : eqD (.str a) (.str b) = (a == b) := by
  show PyData.eqv (.str (mkS a)) (.str (mkS b)) = _
  show (mkS a == mkS b) = (a == b)
  by_cases h : a = b
  · subst h; simp
  · rw [beq_eq_false_iff_ne.mpr h]
    exact beq_eq_false_iff_ne.mpr fun z => h (by have := congrArg Str.cps z; simpa using this)
@[simp] theorem eq_tt (a b : List D) : eqD (.tup a) (.tup b) = eqL a b := rfl
@[simp] theorem eq_tf (a b : List D) : eqD (.tup a) (.ft b) = eqL a b := rfl
@[simp] theorem eq_ll (a b : List D) : eqD (.lst a) (.lst b) = eqL a b := rfl
@[simp] theorem eqL_nn : eqL [] [] = true := rfl
@[simp] theorem eqL_cc (a b : D) (r s : List D) : eqL (a :: r) (b :: s) = (eqD a b && eqL r s) := rfl
@[simp] theorem eqL_nc (b : D) (s : List D) : eqL [] (b :: s) = false := rfl
@[simp] theorem eqL_cn (a : D) (r : List D) : eqL (a :: r) [] = false := rfl
@[simp] theorem eq_ns (b : List Nat) : eqD .non (.str b) = false := rfl
@[simp] theorem eq_ni (b : Int) : eqD .non (.int b) = false := rfl
@[simp] theorem eq_sn (b : List Nat) : eqD (.str b) .non = false := rfl
@[simp] theorem eq_in (b : Int) : eqD (.int b) .non = false := rfl
@[simp] theorem eq_si (b : List Nat) (i : Int) : eqD (.str b) (.int i) = false := rfl
@[simp] theorem eq_is (b : List Nat) (i : Int) : eqD (.int i) (.str b) = false := rfl
@[simp] theorem eq_bs (b : List Nat) (i : Bool) : eqD (.bl i) (.str b) = false := rfl
@[simp] theorem eq_sb (b : List Nat) (i : Bool) : eqD (.str b) (.bl i) = false := rfl
@[simp] theorem eq_bn (i : Bool) : eqD (.bl i) .non = false := rfl
@[simp] theorem eq_nb (i : Bool) : eqD .non (.bl i) = false := rfl
mutual
theorem eq_self : ∀ d : D, okD d = true → eqD d d = true
  | .non, _ => rfl
  | .bl b, _ => by simp
  | .int i, _ => by simp
  | .str cs, _ => by simp
  | .tup ds, h => eqL_self ds h
  | .lst ds, h => eqL_self ds h
  | .fl ds, h => eqL_self ds h
  | .ft ds, h => eqL_self ds h
theorem eqL_self : ∀ ds : List D, okL ds = true → eqL ds ds = true
  | [], _ => rfl
  | d :: ds, h => by
    obtain ⟨h1, h2⟩ := and2 (show (okD d && okL ds) = true from h)
    rw [eqL_cc, eq_self d h1, eqL_self ds h2]; rfl
end
/-- a plain text -/
def asc (cs : List Nat) : Prop := ∀ c ∈ cs, c < 1114112
theorem ok_str {cs : List Nat} (h : asc cs) : okD (.str cs) = true := List.all_eq_true.mpr fun c hc => decide_eq_true (h c hc)
@[simp] theorem sh_non : shD .non = true := by decide
@[simp] theorem sh_bl (b : Bool) : shD (.bl b) = true := by cases b <;> decide
@[simp] theorem sh_int (i : Int) : shD (.int i) = true := rfl
theorem sh_str {cs : List Nat} (h : asc cs) : shD (.str cs) = true := by
  show (okD (.str cs) && decide _) = true
  rw [ok_str h]; rfl
/-- scalars -/
def sclD : D → Bool
  | .non | .bl _ | .int _ => true
  | .str cs => cs.all (· < 1114112)
  | _ => false
theorem scl_ok : ∀ d : D, sclD d = true → okD d = true ∧ (pyD d).depth = 0
  | .non, _ => ⟨rfl, rfl⟩
  | .bl _, _ => ⟨rfl, rfl⟩
  | .int _, _ => ⟨rfl, rfl⟩
  | .str cs, h => ⟨h, rfl⟩
theorem scl_okL : ∀ ds : List D, (∀ d ∈ ds, sclD d = true) → okL ds = true ∧ PyData.depthAll (pyL ds) = 0
  | [], _ => ⟨rfl, rfl⟩
  | d :: ds, h => by
    obtain ⟨a1, a2⟩ := scl_ok d (h d List.mem_cons_self)
    obtain ⟨b1, b2⟩ := scl_okL ds fun e he => h e (List.mem_cons_of_mem _ he)
    refine ⟨by show (okD d && okL ds) = true; rw [a1, b1]; rfl, ?_⟩
    show PyData.depthAll (pyD d :: pyL ds) = 0
    simp [PyData.depthAll, a2, b2]
theorem sh_tup {ds : List D} (h : ∀ d ∈ ds, sclD d = true) : shD (.tup ds) = true := by
  obtain ⟨a, b⟩ := scl_okL ds h
  show (okL ds && decide ((PyData.tuple (pyL ds)).depth ≤ 60)) = true
  rw [a]
  simp [PyData.depth, b]
theorem sh_lst {ds : List D} (h : ∀ d ∈ ds, sclD d = true) : shD (.lst ds) = true := by
  obtain ⟨a, b⟩ := scl_okL ds h
  show (okL ds && decide ((PyData.list (pyL ds)).depth ≤ 60)) = true
  rw [a]
  simp [PyData.depth, b]
/-! ### loops -/
/-- a comprehension whose items change nothing -/
theorem lc_pure {gd : List (Nat × List D)} {f : D → List O → R (Option D)} {g : D → Option D} {S : List O} : ∀ {its : List D} {acc : List D}, (∀ T, gdOk (S ++ T) gd) → (∀ d ∈ its, ∀ acc, f d (S ++ [.lst acc]) = .ok (g d) (S ++ [.lst acc])) → acc.length + its.length ≤ sizeLine →
    lcGo S.length gd f its (S ++ [.lst acc]) = .ok () (S ++ [.lst (acc ++ its.filterMap g)])
  | [], acc, hg, hf, hz => by
    unfold lcGo
    rw [if_pos (hg _)]
    simp
  | d :: ds, acc, hg, hf, hz => by
    unfold lcGo
    rw [if_pos (hg _), hf d List.mem_cons_self acc]
    cases hgd : g d with
    | none =>
      dsimp only
      rw [lc_pure hg (fun e he => hf e (List.mem_cons_of_mem _ he)) (by simp at hz ⊢; omega)]
      simp [hgd]
    | some x =>
      dsimp only
      have h1 : (S ++ [O.lst acc])[S.length]? = some (.lst acc) := by simp
      have h2 : (S ++ [O.lst acc]).set S.length (.lst (acc ++ [x])) = S ++ [.lst (acc ++ [x])] := by simp
      rw [h1]
      dsimp only
      rw [if_pos (by simp at hz; omega), h2, lc_pure hg (fun e he => hf e (List.mem_cons_of_mem _ he)) (by simp at hz ⊢; omega)]
      simp [hgd]
/-- .. that change things: what is wanted of each -/
theorem lc_some {gd : List (Nat × List D)} {f : D → List O → R (Option D)} {N : Nat} {Inv : List O → Prop} {P : D → Prop} (hN : ∀ S, Inv S → S.length = N) : ∀ {its : List D} {acc : List D} {S : List O}, Inv S → (∀ S T, Inv S → gdOk (S ++ T) gd) →
    (∀ d ∈ its, ∀ S acc, Inv S → ∃ x S', f d (S ++ [.lst acc]) = .ok (some x) (S' ++ [.lst acc]) ∧ Inv S' ∧ P x) → acc.length + its.length ≤ sizeLine →
    ∃ xs S', lcGo N gd f its (S ++ [.lst acc]) = .ok () (S' ++ [.lst (acc ++ xs)]) ∧ Inv S' ∧ (∀ x ∈ xs, P x) ∧ xs.length = its.length
  | [], acc, S, hi, hg, hf, hz => by
    refine ⟨[], S, ?_, hi, by simp, rfl⟩
    unfold lcGo
    rw [if_pos (hg _ _ hi)]
    simp
  | d :: ds, acc, S, hi, hg, hf, hz => by
    obtain ⟨x, S1, e1, i1, p1⟩ := hf d List.mem_cons_self S acc hi
    obtain ⟨xs, S2, e2, i2, p2, l2⟩ := lc_some hN (its := ds) (acc := acc ++ [x]) i1 hg (fun e he => hf e (List.mem_cons_of_mem _ he)) (by simp at hz ⊢; omega)
    refine ⟨x :: xs, S2, ?_, i2, fun y hy => ?_, by simp [l2]⟩
    · unfold lcGo
      rw [if_pos (hg _ _ hi), e1]
      dsimp only
      have h1 : (S1 ++ [O.lst acc])[N]? = some (.lst acc) := by rw [← hN S1 i1]; simp
      have h2 : (S1 ++ [O.lst acc]).set N (.lst (acc ++ [x])) = S1 ++ [.lst (acc ++ [x])] := by rw [← hN S1 i1]; simp
      rw [h1]
      dsimp only
      rw [if_pos (by simp at hz; omega), h2, e2]
      simp
    · rcases List.mem_cons.mp hy with rfl | hy
      · exact p1
      · exact p2 y hy
/-- a for whose turns hold Inv, or end the def with what P lets -/
theorem fr_some {gd : List (Nat × List D)} {t : T} {b : Env' → List O → Fl} {Inv : Env' → List O → Prop} {Q : Fl → Prop} : ∀ {its : List D} {ρ : Env'} {S : List O}, Inv ρ S → (∀ ρ S, Inv ρ S → gdOk S gd) →
    (∀ d ∈ its, ∀ ρ S, Inv ρ S → ∃ ρ', asT t d ρ = some ρ' ∧ ((∃ ρ2 S2, b ρ' S = .nx ρ2 S2 ∧ Inv ρ2 S2) ∨ (Q (b ρ' S) ∧ ∀ ρ2 S2, b ρ' S ≠ .nx ρ2 S2))) →
    (∃ ρ2 S2, frGo gd t b its ρ S = .nx ρ2 S2 ∧ Inv ρ2 S2) ∨ (Q (frGo gd t b its ρ S) ∧ ∀ ρ2 S2, frGo gd t b its ρ S ≠ .nx ρ2 S2)
  | [], ρ, S, hi, hg, hf => by
    refine .inl ⟨ρ, S, ?_, hi⟩
    unfold frGo
    rw [if_pos (hg _ _ hi)]
  | d :: ds, ρ, S, hi, hg, hf => by
    obtain ⟨ρ', ha, h⟩ := hf d List.mem_cons_self ρ S hi
    have e : frGo gd t b (d :: ds) ρ S = (b ρ' S).bind fun ρ'' S' => frGo gd t b ds ρ'' S' := by
      conv => lhs; unfold frGo
      rw [if_pos (hg _ _ hi), ha]
    rw [e]
    rcases h with ⟨ρ2, S2, e2, i2⟩ | ⟨q, hn⟩
    · rw [e2]
      exact fr_some (its := ds) i2 hg fun d hd => hf d (List.mem_cons_of_mem _ hd)
    · cases hb : b ρ' S with
      | nx ρ2 S2 => exact (hn _ _ hb).elim
      | rt v S2 => rw [hb] at q; exact .inr ⟨q, fun _ _ z => nomatch z⟩
      | ex y ρ2 S2 => rw [hb] at q; exact .inr ⟨q, fun _ _ z => nomatch z⟩
      | bad => rw [hb] at q; exact .inr ⟨q, fun _ _ z => nomatch z⟩
/-- a turn of a for -/
theorem fr_cons {gd : List (Nat × List D)} {t : T} {b : Env' → List O → Fl} {d : D} {ds : List D} {ρ ρ' : Env'} {S : List O} (hg : gdOk S gd) (ha : asT t d ρ = some ρ') :
    frGo gd t b (d :: ds) ρ S = (b ρ' S).bind fun ρ'' S' => frGo gd t b ds ρ'' S' := by
  conv => lhs; unfold frGo
  rw [if_pos hg, ha]
theorem fr_nil {gd : List (Nat × List D)} {t : T} {b : Env' → List O → Fl} {ρ : Env'} {S : List O} (hg : gdOk S gd) : frGo gd t b [] ρ S = .nx ρ S := by
  unfold frGo
  rw [if_pos hg]
theorem whF_mono {c : Env' → List O → R Bool} {b : Env' → List O → Fl} : ∀ {n : Nat} {ρ : Env'} {S : List O} {f : Fl}, whF c b n ρ S = some f → ∀ m, n ≤ m → whF c b m ρ S = some f
  | 0, _, _, _, h, _, _ => nomatch h
  | n + 1, ρ, S, f, h, m, hm => by
    obtain ⟨m, rfl⟩ : ∃ k, m = k + 1 := ⟨m - 1, by omega⟩
    unfold whF at h ⊢
    cases hc : c ρ S with
    | bad => rw [hc] at h; exact h
    | ex y S' => rw [hc] at h; exact h
    | ok k S' =>
      rw [hc] at h
      cases k with
      | false => exact h
      | true =>
        dsimp only at h ⊢
        cases hb : b ρ S' with
        | nx ρ2 S2 => rw [hb] at h; exact whF_mono h m (by omega)
        | rt v S2 => rw [hb] at h; exact h
        | ex y ρ2 S2 => rw [hb] at h; exact h
        | bad => rw [hb] at h; exact h
theorem whC_of {c : Env' → List O → R Bool} {b : Env' → List O → Fl} {n : Nat} {ρ : Env'} {S : List O} {f : Fl} (h : whF c b n ρ S = some f) : whC c b ρ S = f := by
  unfold whC
  have hx : ∃ n f, whF c b n ρ S = some f := ⟨n, f, h⟩
  rw [dif_pos hx]
  have h2 := Classical.choose_spec (Classical.choose_spec hx)
  have a := whF_mono h (max n (Classical.choose hx)) (Nat.le_max_left _ _)
  have b := whF_mono h2 (max n (Classical.choose hx)) (Nat.le_max_right _ _)
  rw [a] at b
  exact (Option.some.inj b).symm
/-- a call's run -/
theorem call_gc {t : Ct} {k np nn : Nat} {b : Ss} {ds : List D} {S : List O} {f : Nat} (h : t.defs f = some ⟨np, nn, false, b⟩) (hl : ds.length = np) :
    callD t (k + 1) f ds S = gcR S (fin (evSs t (callD t k) b none (ds.map some ++ List.replicate (nn - ds.length) none) S)) := by
  show (match t.defs f with
    | some d => runD t (callD t k) d ds S
    | none => .bad) = _
  rw [h]
  exact runD_gc hl
theorem call_raw {t : Ct} {k np nn : Nat} {b : Ss} {ds : List D} {S : List O} {f : Nat} (h : t.defs f = some ⟨np, nn, true, b⟩) (hl : ds.length = np) :
    callD t (k + 1) f ds S = fin (evSs t (callD t k) b none (ds.map some ++ List.replicate (nn - ds.length) none) S) := by
  show (match t.defs f with
    | some d => runD t (callD t k) d ds S
    | none => .bad) = _
  rw [h]
  exact runD_raw hl
end Ev
end
section
set_option Elab.async false
set_option linter.all false
set_option maxRecDepth 100000
set_option maxHeartbeats 4000000
set_option autoImplicit false
/-! Ev, part W: the rules to evaluate by, what comes later kept shut (`simp -dsimp`). -/
namespace Ev
open PySem PySem.Spec PyProof.Rows L2
inductive Wit {α : Type} (a : α) : Type where
  | mk
/-- shut: simp does not look into it -/
def hid {α : Type} (a : α) (_ : Wit a) : α := a
@[simp] theorem hid_ap {α β γ : Type} (f : α → β → γ) (w : Wit f) (a : α) (b : β) : hid f w a b = f a b := rfl
theorem hid_eq {α : Type} (f : α) (w : Wit f) : hid f w = f := rfl

/-- the list is done -/
def lcR (n : Nat) (r : R Unit) : R D := r.prim.bind fun _ S' => .ok (.ref n) S'
@[simp] theorem lcR_ok {n : Nat} {S : List O} : lcR n (.ok () S) = .ok (.ref n) S := rfl
noncomputable def lcE (gd : List (Nat × List D)) (g : D → List O → R (Option D)) (its : List D) (S : List O) : R D := lcR S.length (lcGo S.length gd g its (S ++ [.lst []]))
noncomputable def lc2E (gd : List (Nat × List D)) (g : D → List O → R Unit) (its : List D) (S : List O) : R D := lcR S.length (lc2Go gd g its (S ++ [.lst []]))
section
variable {t : Ct} {C : Orc} {hx : Option Exn} {ρ : Env'} {S : List O}
@[simp] theorem w_non : evE t C hx .non ρ S = .ok .non S := rfl
@[simp] theorem w_bl {b : Bool} : evE t C hx (.bl b) ρ S = .ok (.bl b) S := rfl
@[simp] theorem w_int {b : Int} : evE t C hx (.int b) ρ S = .ok (.int b) S := rfl
@[simp] theorem w_str {b : List Nat} : evE t C hx (.str b) ρ S = .ok (.str b) S := rfl
@[simp] theorem w_var {i : Nat} : evE t C hx (.var i) ρ S = (match ρ[i]? with
    | some (some d) => .ok d S
    | _ => .bad) := rfl
@[simp] theorem w_glb {g : Nat} : evE t C hx (.glb g) ρ S = .ok (t.glb g) S := rfl
@[simp] theorem w_bin {o : Operator} {a b : E} : evE t C hx (.bin o a b) ρ S = (evE t C hx a ρ S).bind (hid (fun x S => (evE t C hx b ρ S).bind (hid (fun y S => (binD o x y S).prim) .mk)) .mk) := rfl
@[simp] theorem w_neg {a : E} : evE t C hx (.neg a) ρ S = (evE t C hx a ρ S).bind (hid (fun x S => (negD x S).prim) .mk) := rfl
@[simp] theorem w_nt {a : E} : evE t C hx (.nt a) ρ S = (evE t C hx a ρ S).bind (hid (fun x S => (ntD x S).prim) .mk) := rfl
/-- and, or -/
noncomputable def andR (k : Unit → List O → R D) (x : D) (S : List O) : R D := match x with
    | .bl true => k () S
    | .bl false => .ok (.bl false) S
    | _ => .bad
noncomputable def orR (k : Unit → List O → R D) (x : D) (S : List O) : R D := match x with
    | .bl true => .ok (.bl true) S
    | .bl false => k () S
    | _ => .bad
@[simp] theorem andR_bl {k : Unit → List O → R D} {b : Bool} : andR k (.bl b) S = if b = true then k () S else .ok (.bl false) S := by cases b <;> rfl
@[simp] theorem orR_bl {k : Unit → List O → R D} {b : Bool} : orR k (.bl b) S = if b = true then .ok (.bl true) S else k () S := by cases b <;> rfl
@[simp] theorem w_and {a b : E} : evE t C hx (.and a b) ρ S = (evE t C hx a ρ S).bind (hid (fun x S => andR (hid (fun _ S => evE t C hx b ρ S) .mk) x S) .mk) := rfl
@[simp] theorem w_or {a b : E} : evE t C hx (.or a b) ρ S = (evE t C hx a ρ S).bind (hid (fun x S => orR (hid (fun _ S => evE t C hx b ρ S) .mk) x S) .mk) := rfl
@[simp] theorem w_cmp {o : CmpOp} {a b : E} : evE t C hx (.cmp o a b) ρ S = (evE t C hx a ρ S).bind (hid (fun x S => (evE t C hx b ρ S).bind (hid (fun y S => (cmpD o x y S).prim) .mk)) .mk) := rfl
@[simp] theorem w_chain {o o' : CmpOp} {a b c : E} : evE t C hx (.chain o o' a b c) ρ S = (evE t C hx a ρ S).bind (hid (fun x S => (evE t C hx b ρ S).bind (hid (fun y S => (cmpD o x y S).prim.bind (hid (fun z S => andR (hid (fun _ S => (evE t C hx c ρ S).bind (hid (fun w S => (cmpD o' y w S).prim) .mk)) .mk) z S) .mk)) .mk)) .mk) := rfl
@[simp] theorem w_ite {c a b : E} : evE t C hx (.ite c a b) ρ S = (evE t C hx c ρ S).bind (hid (fun x S => (tstD x S).bind (hid (fun k S => if k = true then evE t C hx a ρ S else evE t C hx b ρ S) .mk)) .mk) := rfl
@[simp] theorem w_tup {es : Es} : evE t C hx (.tup es) ρ S = (evEs t C hx es ρ S).bind (hid (fun ds S => if ds.length ≤ sizeLine then .ok (.tup ds) S else .bad) .mk) := rfl
@[simp] theorem w_lst {es : Es} : evE t C hx (.lst es) ρ S = (evEs t C hx es ρ S).bind (hid (fun ds S => if ds.length ≤ sizeLine then .ok (.ref S.length) (S ++ [.lst ds]) else .bad) .mk) := rfl
@[simp] theorem w_emp {k : Bool} : evE t C hx (.emp k) ρ S = .ok (.ref S.length) (S ++ [if k = true then .dT [] [] else .dK [] []]) := rfl
@[simp] theorem w_flst {es : Es} : evE t C hx (.flst es) ρ S = (evEs t C hx es ρ S).bind (hid (fun ds S => if ds.length ≤ sizeLine then .ok (.lst ds) S else .bad) .mk) := rfl
@[simp] theorem w_femp {k : Bool} : evE t C hx (.femp k) ρ S = .ok (if k = true then .dt [] [] else .dk [] []) S := rfl
@[simp] theorem w_idx {a i : E} : evE t C hx (.idx a i) ρ S = (evE t C hx a ρ S).bind (hid (fun x S => (evE t C hx i ρ S).bind (hid (fun y S => (idxD x y S).prim) .mk)) .mk) := rfl
@[simp] theorem w_slc {a : E} {lo hi : OE} : evE t C hx (.slc a lo hi) ρ S = (evE t C hx a ρ S).bind (hid (fun x S => (evO t C hx lo ρ S).bind (hid (fun l S => (evO t C hx hi ρ S).bind (hid (fun h S => (sliceD x l h S).prim) .mk)) .mk)) .mk) := rfl
@[simp] theorem w_attr {a : E} {f : Nat} : evE t C hx (.attr a f) ρ S = (evE t C hx a ρ S).bind (hid (fun x S => attrD t x f S) .mk) := rfl
@[simp] theorem w_call {f : Nat} {es : Es} : evE t C hx (.call f es) ρ S = (evEs t C hx es ρ S).bind (hid (fun ds S => C f ds S) .mk) := rfl
@[simp] theorem w_make {c : Nat} {es : Es} : evE t C hx (.make c es) ρ S = (evEs t C hx es ρ S).bind (hid (fun ds S => mkRun t C c ds S) .mk) := rfl
@[simp] theorem mkEnd_non {n : Nat} {S : List O} : mkEnd n .non S = .ok (.ref n) S := rfl
theorem mk_run {t : Ct} {C : Orc} {c f : Nat} {ds : List D} {S : List O} (h : t.ini c = some f) : mkRun t C c ds S = (C f (.ref S.length :: ds) (S ++ [.ins c [] []])).bind (mkEnd S.length) := by
  unfold mkRun
  rw [h]
@[simp] theorem w_bi {b : BI} {es : Es} : evE t C hx (.bi b es) ρ S = (evEs t C hx es ρ S).bind (hid (fun ds S => (biD b ds S).prim) .mk) := rfl
@[simp] theorem w_meth {m : MT} {o : E} {es : Es} : evE t C hx (.meth m o es) ρ S = (evE t C hx o ρ S).bind (hid (fun x S => if m.at S x = true then (evEs t C hx es ρ S).bind (hid (fun ds S => (methD m x ds S).prim) .mk) else .bad) .mk) := rfl
@[simp] theorem w_omth {m : Nat} {o : E} {es : Es} : evE t C hx (.omth m o es) ρ S = (evE t C hx o ρ S).bind (hid (fun x S => (match insOf S x with
    | some (c, fs, vs) => (match t.mth c m with
      | some f => if fs.contains m = true then .bad else (evEs t C hx es ρ S).bind (hid (fun ds S => C f (x :: ds) S) .mk)
      | none => .bad)
    | none => .bad)) .mk) := rfl
@[simp] theorem w_isi {a : E} {ts : List TyC} : evE t C hx (.isi a ts) ρ S = (evE t C hx a ρ S).bind (hid (fun x S => isiD t x S ts) .mk) := rfl
@[simp] theorem w_xf {f : Nat} {x : Exn} : evE t C (some x) (.xf f) ρ S = (match lookF x.fs x.vs f with
      | some d => if (t.xfs x.c).contains f = true then .ok d S else .bad
      | none => .bad) := rfl
@[simp] theorem w_xis {T : TyC} {x : Exn} : evE t C (some x) (.xis T) ρ S = (match xisB t x T with
      | some b => if x.fs = [] then .ok (.bl b) S else .bad
      | none => .bad) := rfl
@[simp] theorem w_lc {elt : E} {tg : T} {it : I} {c : OE} {vs : List Nat} : evE t C hx (.lc elt tg it c vs) ρ S = (evI t C hx it ρ S).bind (hid (fun s S => lcE s.gd (hid (fun d S' => (match asT tg d (wipeD ρ vs) with
      | some ρ' => (evC t C hx c ρ' S').bind (hid (fun k S' => if k = true then (evE t C hx elt ρ' S').map some else .ok none S') .mk)
      | none => .bad)) .mk) s.its S) .mk) := rfl
@[simp] theorem w_lc2 {elt : E} {tg : T} {it : I} {tg1 : T} {it1 : I} {vs vs1 : List Nat} : evE t C hx (.lc2 elt tg it tg1 it1 vs vs1) ρ S = (evI t C hx it ρ S).bind (hid (fun s S => lc2E s.gd (hid (fun d S' => (match asT tg d (wipeD ρ vs) with
      | some ρ' => (evI t C hx it1 ρ' S').bind (hid (fun s1 S' => lcGo S.length s1.gd (hid (fun d1 S' => (match asT tg1 d1 (wipeD ρ' vs1) with
        | some ρ'' => (evE t C hx elt ρ'' S').map some
        | none => .bad)) .mk) s1.its S') .mk)
      | none => .bad)) .mk) s.its S) .mk) := rfl
@[simp] theorem w_oeq {m : Nat} {a b : E} : evE t C hx (.oeq m a b) ρ S = (evE t C hx a ρ S).bind (hid (fun x S => (evE t C hx b ρ S).bind (hid (fun y S => oeqD t C m x y S) .mk)) .mk) := rfl
@[simp] theorem w_mulL {z : Bool} {a b : E} : evE t C hx (.mulL z a b) ρ S = (evE t C hx a ρ S).bind (hid (fun x S => (evE t C hx b ρ S).bind (hid (fun y S => (mulLD z x y S).prim) .mk)) .mk) := rfl
@[simp] theorem w_lrng {k : Nat} {a : E} : evE t C hx (.lrng k a) ρ S = (evE t C hx a ρ S).bind (hid (fun x S => (lrD k (.int 0) x S).prim) .mk) := rfl
@[simp] theorem w_lrng2 {k : Nat} {a b : E} : evE t C hx (.lrng2 k a b) ρ S = (evE t C hx a ρ S).bind (hid (fun x S => (evE t C hx b ρ S).bind (hid (fun y S => (lrD k x y S).prim) .mk)) .mk) := rfl
@[simp] theorem w_frz {a : E} : evE t C hx (.frz a) ρ S = gcR S (evE t C hx a ρ S) := rfl
@[simp] theorem ws_nil : evEs t C hx .nil ρ S = .ok [] S := rfl
@[simp] theorem ws_1 {e : E} : evEs t C hx (.cons e .nil) ρ S = (evE t C hx e ρ S).bind (hid (fun d S => .ok [d] S) .mk) := rfl
@[simp] theorem ws_cons {e e2 : E} {r : Es} : evEs t C hx (.cons e (.cons e2 r)) ρ S = (evE t C hx e ρ S).bind (hid (fun d S => (evEs t C hx (.cons e2 r) ρ S).bind (hid (fun ds S => .ok (d :: ds) S) .mk)) .mk) := rfl
@[simp] theorem wo_no : evO t C hx .no ρ S = .ok none S := rfl
@[simp] theorem wo_yes {e : E} : evO t C hx (.yes e) ρ S = (evE t C hx e ρ S).bind (hid (fun d S => optI d S) .mk) := rfl
@[simp] theorem wc_no : evC t C hx .no ρ S = .ok true S := rfl
@[simp] theorem wc_yes {e : E} : evC t C hx (.yes e) ρ S = (evE t C hx e ρ S).bind (hid (fun d S => tstD d S) .mk) := rfl
@[simp] theorem wi_of {e : E} : evI t C hx (.of e) ρ S = (evE t C hx e ρ S).bind (hid (fun d S => ofS d S) .mk) := rfl
@[simp] theorem wi_rng {e : E} : evI t C hx (.rng e) ρ S = (evE t C hx e ρ S).bind (hid (fun d S => rngS (.int 0) d S) .mk) := rfl
@[simp] theorem wi_rng2 {a b : E} : evI t C hx (.rng2 a b) ρ S = (evE t C hx a ρ S).bind (hid (fun x S => (evE t C hx b ρ S).bind (hid (fun y S => rngS x y S) .mk)) .mk) := rfl
@[simp] theorem wi_zip {a b : E} : evI t C hx (.zip a b) ρ S = (evE t C hx a ρ S).bind (hid (fun x S => (evE t C hx b ρ S).bind (hid (fun y S => (ofS x S).bind (hid (fun s S => (ofS y S).bind (hid (fun s' S => .ok (zipS s s') S) .mk)) .mk)) .mk)) .mk) := rfl
@[simp] theorem wi_enm {a : E} : evI t C hx (.enm a) ρ S = (evE t C hx a ρ S).bind (hid (fun x S => (ofS x S).bind (hid (fun s S => .ok (enmS s) S) .mk)) .mk) := rfl
@[simp] theorem w_tst {e : E} : tst t C hx e ρ S = (evE t C hx e ρ S).bind (hid (fun d S => tstD d S) .mk) := rfl

@[simp] theorem v_pass : evS t C .pass hx ρ S = .nx ρ S := rfl
@[simp] theorem v_doc : evS t C .doc hx ρ S = .nx ρ S := rfl
@[simp] theorem v_ret {e : E} : evS t C (.ret e) hx ρ S = (evE t C hx e ρ S).fl ρ (hid (fun d S => .rt d S) .mk) := rfl
@[simp] theorem v_retN : evS t C .retN hx ρ S = .rt .non S := rfl
@[simp] theorem v_exp {e : E} : evS t C (.exp e) hx ρ S = (evE t C hx e ρ S).fl ρ (hid (fun d S => .nx ρ S) .mk) := rfl
@[simp] theorem v_asg {g : T} {e : E} : evS t C (.asg g e) hx ρ S = (evE t C hx e ρ S).fl ρ (hid (fun d S => (match asT g d ρ with
    | some ρ' => .nx ρ' S
    | none => .bad)) .mk) := rfl
@[simp] theorem v_asgL {z : Bool} {i : Nat} {elt : E} {tg : T} {it : I} {c : OE} {vs : List Nat} : evS t C (.asgL z i elt tg it c vs) hx ρ S = (gcB z S (evE t C hx (.lc elt tg it c vs) ρ S)).fl ρ (hid (fun d S => .nx (ρ.set i (some d)) S) .mk) := rfl
@[simp] theorem v_asgL2 {z : Bool} {i : Nat} {elt : E} {tg : T} {it : I} {tg1 : T} {it1 : I} {vs vs1 : List Nat} : evS t C (.asgL2 z i elt tg it tg1 it1 vs vs1) hx ρ S = (gcB z S (evE t C hx (.lc2 elt tg it tg1 it1 vs vs1) ρ S)).fl ρ (hid (fun d S => .nx (ρ.set i (some d)) S) .mk) := rfl
@[simp] theorem v_par {i j : Nat} {a b : E} : evS t C (.par i j a b) hx ρ S = (evE t C hx a ρ S).fl ρ (hid (fun x S => (evE t C hx b ρ S).fl ρ (hid (fun y S => .nx ((ρ.set i (some x)).set j (some y)) S) .mk)) .mk) := rfl
@[simp] theorem v_asgI {o i e : E} : evS t C (.asgI o i e) hx ρ S = (evE t C hx e ρ S).fl ρ (hid (fun d S => (evE t C hx o ρ S).fl ρ (hid (fun x S => (evE t C hx i ρ S).fl ρ (hid (fun y S => (setD x y d S).prim.fl ρ (hid (fun _ S => .nx ρ S) .mk)) .mk)) .mk)) .mk) := rfl
@[simp] theorem v_asgF {o : E} {f : Nat} {e : E} : evS t C (.asgF o f e) hx ρ S = (evE t C hx e ρ S).fl ρ (hid (fun d S => (evE t C hx o ρ S).fl ρ (hid (fun x S => (setF t x f d S).fl ρ (hid (fun _ S => .nx ρ S) .mk)) .mk)) .mk) := rfl
@[simp] theorem v_aug {i : Nat} {op : Operator} {e : E} : evS t C (.aug i op e) hx ρ S = (match ρ[i]? with
    | some (some (.int a)) => (evE t C hx e ρ S).fl ρ (hid (fun d S => (match augD op a d with
      | some c => .nx (ρ.set i (some (.int c))) S
      | none => .bad)) .mk)
    | _ => .bad) := rfl
@[simp] theorem v_ife {c : E} {a b : Ss} : evS t C (.ife c a b) hx ρ S = (tst t C hx c ρ S).fl ρ (hid (fun k S => if k = true then evSs t C a hx ρ S else evSs t C b hx ρ S) .mk) := rfl
@[simp] theorem v_wh {c : E} {b : Ss} : evS t C (.wh c b) hx ρ S = whC (hid (fun ρ S => tst t C hx c ρ S) .mk) (hid (fun ρ S => evSs t C b hx ρ S) .mk) ρ S := rfl
@[simp] theorem v_fr {g : T} {it : I} {b : Ss} : evS t C (.fr g it b) hx ρ S = (evI t C hx it ρ S).fl ρ (hid (fun s S => frGo s.gd g (hid (fun ρ S => evSs t C b hx ρ S) .mk) s.its ρ S) .mk) := rfl
@[simp] theorem v_rse {c : Nat} {es : Es} : evS t C (.rse c es) hx ρ S = (evEs t C hx es ρ S).fl ρ (hid (fun ds S => if ds.length = (t.xfs c).length then .ex ⟨c, t.xfs c, ds⟩ ρ S else .bad) .mk) := rfl
/-- a try -/
noncomputable def triR (k : Exn → Env' → List O → Fl) : Fl → Fl
  | .ex x ρ S => k x ρ S
  | f => f
@[simp] theorem tri_ex {k : Exn → Env' → List O → Fl} {x : Exn} : triR k (.ex x ρ S) = k x ρ S := rfl
@[simp] theorem tri_nx {k : Exn → Env' → List O → Fl} : triR k (.nx ρ S) = .nx ρ S := rfl
@[simp] theorem tri_rt {k : Exn → Env' → List O → Fl} {d : D} : triR k (.rt d S) = .rt d S := rfl
@[simp] theorem tri_bad {k : Exn → Env' → List O → Fl} : triR k .bad = .bad := rfl
@[simp] theorem hid_ap3 {α β γ δ : Type} (f : α → β → γ → δ) (w : Wit f) (a : α) (b : β) (c : γ) : hid f w a b c = f a b c := rfl
@[simp] theorem v_tri {b : Ss} {hs : Hs} : evS t C (.tri b hs) hx ρ S = triR (hid (fun x ρ' S' => evHs t C hs x ρ' S') .mk) (evSs t C b none ρ S) := by
  show (match evSs t C b none ρ S with
    | .ex x ρ' S' => evHs t C hs x ρ' S'
    | f => f) = _
  unfold triR
  cases evSs t C b none ρ S <;> rfl
@[simp] theorem vs_nil : evSs t C .nil hx ρ S = .nx ρ S := rfl
@[simp] theorem vs_cons {s : Ev.S} {r : Ss} : evSs t C (.cons s r) hx ρ S = (evS t C s hx ρ S).bind (hid (fun ρ' S' => evSs t C r hx ρ' S') .mk) := rfl
theorem fb_id {f : Fl} : f.bind (fun ρ S => .nx ρ S) = f := by cases f <;> rfl
theorem vs_1 {s : Ev.S} : evSs t C (.cons s .nil) hx ρ S = evS t C s hx ρ S := fb_id
@[simp] theorem vh_nil {x : Exn} : evHs t C .nil x ρ S = .ex x ρ S := rfl
@[simp] theorem vh_0 {T : TyC} {b : Ss} {r : Hs} {x : Exn} : evHs t C (.cons T none b r) x ρ S = (match xisB t x T with
    | some true => (evSs t C b (some x) ρ S).nox
    | some false => evHs t C r x ρ S
    | none => .bad) := rfl
/-- the name is given up -/
def Fl.rel (i : Nat) : Fl → Fl
  | .nx ρ' S' => .nx (ρ'.set i none) S'
  | f => f
@[simp] theorem rel_nx {i : Nat} : (Fl.nx ρ S).rel i = .nx (ρ.set i none) S := rfl
@[simp] theorem rel_rt {i : Nat} {d : D} : (Fl.rt d S).rel i = .rt d S := rfl
@[simp] theorem rel_bad {i : Nat} : (Fl.bad).rel i = .bad := rfl
@[simp] theorem vh_1 {T : TyC} {b : Ss} {r : Hs} {x : Exn} {i : Nat} : evHs t C (.cons T (some i) b r) x ρ S = (match xisB t x T with
    | some true => if i < ρ.length then ((evSs t C b (some x) (ρ.set i none) S).nox).rel i else .bad
    | some false => evHs t C r x ρ S
    | none => .bad) := by
  show (match xisB t x T with
    | some true => if i < ρ.length then (match (evSs t C b (some x) (ρ.set i none) S).nox with
        | .nx ρ' S' => Fl.nx (ρ'.set i none) S'
        | f => f) else .bad
    | some false => evHs t C r x ρ S
    | none => .bad) = _
  have e : ∀ f : Fl, (match f with
        | .nx ρ' S' => Fl.nx (ρ'.set i none) S'
        | f => f) = f.rel i := fun f => by cases f <;> rfl
  rw [e]
end
end Ev
end
section
set_option Elab.async false
set_option linter.all false
set_option maxRecDepth 100000
set_option maxHeartbeats 4000000
set_option autoImplicit false
/-! Ev, part Y: lemmas to evaluate by: comprehensions by value, texts of signs. -/
namespace Ev
open PySem PySem.Spec PyProof.Rows L2

theorem beq_comm' (a b : Nat) : (a == b) = (b == a) := by
  by_cases h : a = b
  · subst h; rfl
  · have h1 : (a == b) = false := by simpa using h
    have h2 : (b == a) = false := by simpa using fun z : b = a => h z.symm
    rw [h1, h2]
theorem fm_map {α : Type} (e : α → D) (f : α → Option D) (g : D → Option D) : ∀ xs : List α, (∀ x ∈ xs, g (e x) = f x) → (xs.map e).filterMap g = xs.filterMap f
  | [], _ => rfl
  | x :: xs, h => by
    rw [List.map_cons, List.filterMap_cons, List.filterMap_cons, h x List.mem_cons_self, fm_map e f g xs fun y hy => h y (List.mem_cons_of_mem _ hy)]
theorem lc_go {α : Type} {g : D → List O → R (Option D)} {S : List O} (e : α → D) (f : α → Option D) : ∀ {xs : List α} {acc : List D}, (∀ x ∈ xs, ∀ acc, g (e x) (S ++ [.lst acc]) = .ok (f x) (S ++ [.lst acc])) → acc.length + xs.length ≤ sizeLine →
    lcGo S.length [] g (xs.map e) (S ++ [.lst acc]) = .ok () (S ++ [.lst (acc ++ xs.filterMap f)])
  | [], acc, hf, hz => by
    rw [List.map_nil]
    unfold lcGo
    rw [if_pos (show gdOk _ [] from trivial)]
    simp
  | d :: ds, acc, hf, hz => by
    rw [List.map_cons]
    unfold lcGo
    rw [if_pos (show gdOk _ [] from trivial), hf d List.mem_cons_self acc]
    cases hgd : f d with
    | none =>
      dsimp only
      rw [lc_go e f (fun e he => hf e (List.mem_cons_of_mem _ he)) (by simp at hz ⊢; omega)]
      simp [hgd]
    | some x =>
      dsimp only
      have h1 : (S ++ [O.lst acc])[S.length]? = some (.lst acc) := by simp
      have h2 : (S ++ [O.lst acc]).set S.length (.lst (acc ++ [x])) = S ++ [.lst (acc ++ [x])] := by simp
      rw [h1]
      dsimp only
      rw [if_pos (by simp at hz; omega), h2, lc_go e f (fun e he => hf e (List.mem_cons_of_mem _ he)) (by simp at hz ⊢; omega)]
      simp [hgd]
/-- [.. for x in xs if ..], by value -/
theorem lc_fm {α : Type} {S : List O} {g : D → List O → R (Option D)} {xs : List α} (e : α → D) (f : α → Option D) (h : ∀ x ∈ xs, ∀ T, g (e x) T = .ok (f x) T) (hz : xs.length ≤ 10000) (hn : ∀ x ∈ xs, ∀ d, f x = some d → nrD d = true) :
    gcR S (lcE [] g (xs.map e) S) = .ok (.lst (xs.filterMap f)) S := by
  unfold lcE
  rw [lc_go e f (fun x hx acc => h x hx _) (by simp [szl]; omega)]
  simp only [lcR_ok, List.nil_append]
  refine gcR_lst (nr_clL _ (nrL_all fun d hd => ?_))
  obtain ⟨x, hx, e2⟩ := List.mem_filterMap.mp hd
  exact hn x hx d e2
theorem lc_map {α : Type} {S : List O} {g : D → List O → R (Option D)} {xs : List α} (e : α → D) (f : α → D) (h : ∀ x ∈ xs, ∀ T, g (e x) T = .ok (some (f x)) T) (hz : xs.length ≤ 10000) (hn : ∀ x ∈ xs, nrD (f x) = true) :
    gcR S (lcE [] g (xs.map e) S) = .ok (.lst (xs.map f)) S := by
  rw [lc_fm e (fun x => some (f x)) h hz fun x hx d hd => by cases hd; exact hn x hx, List.filterMap_eq_map']
theorem lc_flt {α : Type} {S : List O} {g : D → List O → R (Option D)} {xs : List α} (e : α → D) (p : α → Bool) (f : α → D) (h : ∀ x ∈ xs, ∀ T, g (e x) T = .ok (if p x = true then some (f x) else none) T) (hz : xs.length ≤ 10000) (hn : ∀ x ∈ xs, nrD (f x) = true) :
    gcR S (lcE [] g (xs.map e) S) = .ok (.lst ((xs.filter p).map f)) S := by
  rw [lc_fm e (fun x => if p x = true then some (f x) else none) h hz fun x hx d hd => by split at hd <;> cases hd; exact hn x hx]
  congr 2
  induction xs with
  | nil => rfl
  | cons x xs ih =>
    have ih := ih (fun y hy => h y (List.mem_cons_of_mem _ hy)) (by simp at hz; omega) (fun y hy => hn y (List.mem_cons_of_mem _ hy))
    by_cases hp : p x = true
    · simp [hp, ih]
    · simp [hp, ih]
@[simp] theorem all_bls {α : Type} {S : List O} {f : α → D} {g : α → Bool} {bs : List α} (h : ∀ b, f b = .bl (g b)) : allD [.lst (bs.map f)] S = .ok (.bl (bs.all g)) S := by
  have : bs.map f = (bs.map g).map D.bl := by simp [h, Function.comp_def]
  show (match blsOf (bs.map f) with
      | some bs => R.ok (D.bl (bs.all id)) S
      | none => R.bad) = _
  rw [this, blsOf_map]
  simp
theorem len_str {cs : List Nat} {S : List O} (h : cs.length ≤ 10000) : lenD [.str cs] S = .ok (.int cs.length) S := by
  show (if cs.length ≤ sizeLine then _ else _) = _
  rw [if_pos (by rw [szl]; omega)]
@[simp] theorem len_lst {ds : List D} {S : List O} : lenD [.lst ds] S = .ok (.int ds.length) S := rfl
@[simp] theorem len_fl {ds : List D} {S : List O} : lenD [.fl ds] S = .ok (.int ds.length) S := rfl
@[simp] theorem len_tup {ds : List D} {S : List O} : lenD [.tup ds] S = .ok (.int ds.length) S := rfl
@[simp] theorem len_ft {ds : List D} {S : List O} : lenD [.ft ds] S = .ok (.int ds.length) S := rfl
/-- the ways of x == y that the model takes -/
theorem eqS_int {neg : Bool} {i j : Int} {S : List O} : eqDS neg (.int i) (.int j) S = .ok (.bl (neg != (i == j))) S := rfl
theorem eqS_str {neg : Bool} {a b : List Nat} {S : List O} (ha : asc a) (hb : asc b) : eqDS neg (.str a) (.str b) S = .ok (.bl (neg != (a == b))) S := by
  show (if (shD (.str a) && shD (.str b)) = true then R.ok (D.bl (neg != eqD (.str a) (.str b))) S else .bad) = _
  rw [sh_str ha, sh_str hb, eq_str]; rfl
theorem eqS_scl {neg : Bool} {a b : D} {S : List O} (ha : sclD a = true) (hb : sclD b = true) : eqDS neg a b S = .ok (.bl (neg != eqD a b)) S := by
  have h1 : shD a = true := by
    obtain ⟨p, q⟩ := scl_ok a ha
    show (okD a && decide _) = true
    rw [p, q]; rfl
  have h2 : shD b = true := by
    obtain ⟨p, q⟩ := scl_ok b hb
    show (okD b && decide _) = true
    rw [p, q]; rfl
  have e : eqDS neg a b S = if (shD a && shD b) = true then R.ok (D.bl (neg != eqD a b)) S else .bad := by
    cases a <;> first | rfl | (cases ha; done) | (cases b <;> first | rfl | (cases hb; done))
  rw [e, h1, h2]; rfl
@[simp] theorem gd_nil {S : List O} : gdOk S [] = True := rfl
@[simp] theorem fr_0 {t : T} {b : Env' → List O → Fl} {ρ : Env'} {S : List O} : frGo [] t b [] ρ S = .nx ρ S := fr_nil trivial
/-- a turn -/
@[simp] theorem fr_1 {t : T} {b : Env' → List O → Fl} {d : D} {ds : List D} {ρ : Env'} {S : List O} : frGo [] t b (d :: ds) ρ S = (match asT t d ρ with
    | some ρ' => (b ρ' S).bind (hid (fun ρ'' S' => frGo [] t b ds ρ'' S') .mk)
    | none => .bad) := by
  conv => lhs; unfold frGo
  rw [if_pos (show gdOk S [] from trivial)]
  rfl
theorem shl_of {m : Int} {S : List O} (h : CPow 1 m) : shlD (.int 1) (.int m) S = .ok (.int (2 ^ m.toNat)) S := by
  show (if CPow 1 m then R.ok (D.int (1 * 2 ^ m.toNat)) S else .bad) = _
  rw [if_pos h, Int.one_mul]
@[simp] theorem shl_1 {S : List O} : shlD (.int 1) (.int 1) S = .ok (.int 2) S := shl_of (by decide)
@[simp] theorem shl_2 {S : List O} : shlD (.int 1) (.int 2) S = .ok (.int 4) S := shl_of (by decide)
@[simp] theorem shl_3 {S : List O} : shlD (.int 1) (.int 3) S = .ok (.int 8) S := shl_of (by decide)
@[simp] theorem shl_4 {S : List O} : shlD (.int 1) (.int 4) S = .ok (.int 16) S := shl_of (by decide)
@[simp] theorem shl_5 {S : List O} : shlD (.int 1) (.int 5) S = .ok (.int 32) S := shl_of (by decide)
@[simp] theorem shl_6 {S : List O} : shlD (.int 1) (.int 6) S = .ok (.int 64) S := shl_of (by decide)
theorem lc2_go {α : Type} {g : D → List O → R Unit} {S : List O} (e : α → D) (f : α → List D) : ∀ {xs : List α} {acc : List D}, (∀ x ∈ xs, ∀ acc, acc.length + (f x).length ≤ 100000 → g (e x) (S ++ [.lst acc]) = .ok () (S ++ [.lst (acc ++ f x)])) → acc.length + (xs.flatMap f).length ≤ 100000 →
    lc2Go [] g (xs.map e) (S ++ [.lst acc]) = .ok () (S ++ [.lst (acc ++ xs.flatMap f)])
  | [], acc, hf, hz => by
    rw [List.map_nil]
    unfold lc2Go
    rw [if_pos (show gdOk _ [] from trivial)]
    simp
  | d :: ds, acc, hf, hz => by
    rw [List.map_cons]
    unfold lc2Go
    rw [List.flatMap_cons, List.length_append] at hz
    rw [if_pos (show gdOk _ [] from trivial), hf d List.mem_cons_self acc (by omega)]
    dsimp only
    rw [lc2_go e f (fun e he => hf e (List.mem_cons_of_mem _ he)) (by simp only [List.length_append]; omega)]
    simp
/-- [.. for x in xs for y in ys], by value -/
theorem lc2_val {α : Type} {S : List O} {g : D → List O → R Unit} {xs : List α} (e : α → D) (f : α → List D) (h : ∀ x ∈ xs, ∀ acc, acc.length + (f x).length ≤ 100000 → g (e x) (S ++ [.lst acc]) = .ok () (S ++ [.lst (acc ++ f x)])) (hz : (xs.flatMap f).length ≤ 100000) (hn : ∀ x ∈ xs, ∀ d ∈ f x, nrD d = true) :
    gcR S (lc2E [] g (xs.map e) S) = .ok (.lst (xs.flatMap f)) S := by
  unfold lc2E
  rw [lc2_go e f h (by simpa using hz)]
  simp only [lcR_ok, List.nil_append]
  refine gcR_lst (nr_clL _ (nrL_all fun d hd => ?_))
  obtain ⟨x, hx, e2⟩ := List.mem_flatMap.mp hd
  exact hn x hx d e2
/-- for x in xs: if p x: return v x -/
theorem fr_find {α : Type} {t : T} {b : Env' → List O → Fl} {S : List O} {I : Env' → Prop} (e : α → D) (p : α → Bool) (v : α → D) : ∀ {xs : List α} {ρ : Env'}, I ρ →
    (∀ x ∈ xs, ∀ ρ, I ρ → ∃ ρ', asT t (e x) ρ = some ρ' ∧ (p x = true → b ρ' S = .rt (v x) S) ∧ (p x = false → ∃ ρ2, b ρ' S = .nx ρ2 S ∧ I ρ2)) →
    (∃ x, xs.find? p = some x ∧ frGo [] t b (xs.map e) ρ S = .rt (v x) S) ∨ (xs.find? p = none ∧ ∃ ρ2, frGo [] t b (xs.map e) ρ S = .nx ρ2 S ∧ I ρ2)
  | [], ρ, hi, h => .inr ⟨rfl, ρ, fr_0, hi⟩
  | x :: xs, ρ, hi, h => by
    obtain ⟨ρ', ha, h1, h2⟩ := h x List.mem_cons_self ρ hi
    rw [List.map_cons, fr_1, ha]
    dsimp only
    cases hp : p x with
    | true => exact .inl ⟨x, by simp [hp], by rw [h1 hp]; rfl⟩
    | false =>
      obtain ⟨ρ2, h3, h4⟩ := h2 hp
      rw [h3, List.find?_cons_of_neg (by simp [hp])]
      exact fr_find e p v h4 fun y hy => h y (List.mem_cons_of_mem _ hy)
/-- a for that runs through: what it holds moves on -/
theorem fr_fold {α β : Type} {t : T} {b : Env' → List O → Fl} {S : List O} (e : α → D) (J : β → Env' → Prop) (f : β → α → β) : ∀ {xs : List α} {ρ : Env'} {z : β}, J z ρ →
    (∀ ys x zs, xs = ys ++ x :: zs → ∀ ρ, J (ys.foldl f z) ρ → ∃ ρ' ρ2, asT t (e x) ρ = some ρ' ∧ b ρ' S = .nx ρ2 S ∧ J (f (ys.foldl f z) x) ρ2) →
    ∃ ρ2, frGo [] t b (xs.map e) ρ S = .nx ρ2 S ∧ J (xs.foldl f z) ρ2
  | [], ρ, z, hi, h => ⟨ρ, fr_0, hi⟩
  | x :: xs, ρ, z, hi, h => by
    obtain ⟨ρ', ρ2, ha, h1, h2⟩ := h [] x xs rfl ρ hi
    obtain ⟨ρ3, h3, h4⟩ := fr_fold (b := b) (t := t) (S := S) e J f (xs := xs) h2 fun ys y zs hy ρ hj => h (x :: ys) y zs (by rw [hy]; rfl) ρ hj
    refine ⟨ρ3, ?_, h4⟩
    rw [List.map_cons, fr_1, ha]
    dsimp only
    rw [h1]
    exact h3
theorem fr_foldK {α β : Type} {t : T} {b : Env' → List O → Fl} {k : Env' → List O → Fl} {S : List O} {P : Fl → Prop} (e : α → D) (J : β → Env' → Prop) (f : β → α → β) {xs : List α} {ρ : Env'} {z : β} (h0 : J z ρ)
    (h : ∀ ys x zs, xs = ys ++ x :: zs → ∀ ρ, J (ys.foldl f z) ρ → ∃ ρ' ρ2, asT t (e x) ρ = some ρ' ∧ b ρ' S = .nx ρ2 S ∧ J (f (ys.foldl f z) x) ρ2)
    (hk : ∀ ρ2, J (xs.foldl f z) ρ2 → P (k ρ2 S)) : P ((frGo [] t b (xs.map e) ρ S).bind k) := by
  obtain ⟨ρ2, h1, h2⟩ := fr_fold e J f h0 h
  rw [h1]
  exact hk ρ2 h2
theorem fr_findK {α : Type} {t : T} {b : Env' → List O → Fl} {k : Env' → List O → Fl} {S : List O} {P : Fl → Prop} (e : α → D) (I : Env' → Prop) (p : α → Bool) (v : α → D) {xs : List α} {ρ : Env'} (h0 : I ρ)
    (h : ∀ x ∈ xs, ∀ ρ, I ρ → ∃ ρ', asT t (e x) ρ = some ρ' ∧ (p x = true → b ρ' S = .rt (v x) S) ∧ (p x = false → ∃ ρ2, b ρ' S = .nx ρ2 S ∧ I ρ2))
    (h1 : ∀ x, xs.find? p = some x → P (.rt (v x) S)) (h2 : xs.find? p = none → ∀ ρ2, I ρ2 → P (k ρ2 S)) : P ((frGo [] t b (xs.map e) ρ S).bind k) := by
  rcases fr_find e p v h0 h with ⟨x, e1, e2⟩ | ⟨e1, ρ2, e2, e3⟩
  · rw [e2]; exact h1 x e1
  · rw [e2]; exact h2 e1 ρ2 e3
theorem find_any {α : Type} {p : α → Bool} {xs : List α} {x : α} (h : xs.find? p = some x) : xs.any p = true := List.any_eq_true.mpr ⟨x, List.mem_of_find?_eq_some h, List.find?_some h⟩
theorem find_no {α : Type} {p : α → Bool} {xs : List α} (h : xs.find? p = none) : xs.any p = false := by
  rw [List.find?_eq_none] at h
  exact List.any_eq_false.mpr fun r hr => by simpa using h r hr
theorem enm_zip {α : Type} (e : α → D) : ∀ (xs : List α) (i : Nat), enmL i (xs.map e) = (xs.zipIdx i).map fun p => .tup [.int (p.2 : Nat), e p.1]
  | [], _ => rfl
  | x :: xs, i => by
    show D.tup [.int (i : Nat), e x] :: enmL (i + 1) (xs.map e) = _
    rw [enm_zip e xs (i + 1), List.zipIdx_cons, List.map_cons]
@[simp] theorem tup_lst {ds : List D} {S : List O} : tupleD [.lst ds] S = .ok (.tup ds) S := rfl
theorem at_nat {α : Type} {xs : List α} {n : Nat} (h : n < xs.length) : atI xs (n : Int) = some xs[n] := by
  have : ixN xs.length (n : Int) = some n := by
    unfold ixN
    simp [h]
  unfold atI
  simp [this, h]
/-- the sign at a place -/
def gt (cs : List Nat) (n : Nat) : Nat := cs.getD n 0
theorem gt_get {cs : List Nat} {n : Nat} (h : n < cs.length) : gt cs n = cs[n] := by
  unfold gt
  rw [List.getD_eq_getElem?_getD, List.getElem?_eq_getElem h]; rfl
theorem gt_mem {cs : List Nat} {n : Nat} (h : n < cs.length) : gt cs n ∈ cs := by
  rw [gt_get h]; exact List.getElem_mem h
theorem idx_str {cs : List Nat} {n : Nat} {S : List O} (hz : cs.length ≤ 10000) (h : n < cs.length) : idxD (.str cs) (.int (n : Int)) S = .ok (.str [gt cs n]) S := by
  show (if cs.length ≤ sizeLine then (match atI cs n with
    | some c => R.ok (D.str [c]) S
    | none => .bad) else .bad) = _
  rw [if_pos (by rw [szl]; omega), at_nat h, gt_get h]
theorem gcR_lm {α : Type} {S : List O} {f : α → D} {xs : List α} (h : ∀ x, nrD (f x) = true) : gcR S (.ok (.lst (xs.map f)) S) = .ok (.lst (xs.map f)) S := gcR_nr (nrL_map h)
theorem gcR_tm {α : Type} {S : List O} {f : α → D} {xs : List α} (h : ∀ x, nrD (f x) = true) : gcR S (.ok (.tup (xs.map f)) S) = .ok (.tup (xs.map f)) S := gcR_nr (nrL_map h)
end Ev
end
section
set_option Elab.async false
set_option linter.all false
set_option maxRecDepth 100000
set_option maxHeartbeats 4000000
set_option autoImplicit false
/-! Ev, part Z: lemmas to evaluate by: dicts by handle, loops that change the store. -/
namespace Ev
open PySem PySem.Spec PyProof.Rows L2
section
variable {S : List O} {n : Nat} {ks : List Key} {vs : List D} (h : S[n]? = some (.dK ks vs))
include h
theorem in_dK {neg : Bool} {cs : List Nat} : inDS neg (.str cs) (.ref n) S = .ok (.bl (neg != (lookK ks vs (.inr (mkS cs))).isSome)) S := by
  simp [inDS, seqOf, rdL, listOf, dGet, dkOf, keyD, h]
theorem idx_dK {cs : List Nat} {w : D} (hw : lookK ks vs (.inr (mkS cs)) = some w) : idxD (.ref n) (.str cs) S = .ok w S := by
  simp [idxD, seqOf, rdL, listOf, dGet, dkOf, keyD, h, hw]
theorem set_dK {cs : List Nat} {w : D} (hz : ks.length ≤ 100000) : setD (.ref n) (.str cs) w S = .ok () (S.set n (.dK (putKs ks (.inr (mkS cs))) (putVs ks vs (.inr (mkS cs)) w))) := by
  have : ks.length < sizeLine := by rw [szl]; omega
  simp [setD, keyD, h, this]
end
theorem lookK_none {κ : Type} [DecidableEq κ] : ∀ {ks : List κ} {vs : List D} {k : κ}, ks.length = vs.length → (k ∈ ks ↔ (lookK ks vs k).isSome = true)
  | [], _, k, _ => by simp [lookK]
  | a :: ks, [], k, h => by simp at h
  | a :: ks, b :: vs, k, h => by
    unfold lookK
    by_cases e : a = k
    · simp [e]
    · rw [if_neg e, ← lookK_none (ks := ks) (vs := vs) (by simpa using h)]
      simp [Ne.symm e]
theorem lookK_app {κ : Type} [DecidableEq κ] : ∀ {ks : List κ} {vs : List D} {k k2 : κ} {d : D}, ks.length = vs.length → k ∉ ks → lookK (ks ++ [k]) (vs ++ [d]) k2 = if k = k2 then some d else lookK ks vs k2
  | [], [], k, k2, d, _, _ => by simp [lookK]
  | [], _ :: _, _, _, _, h, _ => by simp at h
  | a :: ks, [], k, k2, d, h, _ => by simp at h
  | a :: ks, b :: vs, k, k2, d, h, hn => by
    show (if a = k2 then some b else lookK (ks ++ [k]) (vs ++ [d]) k2) = if k = k2 then some d else (if a = k2 then some b else lookK ks vs k2)
    rw [lookK_app (by simpa using h) (fun z => hn (List.mem_cons_of_mem _ z))]
    by_cases e : a = k2
    · subst e
      have : ¬ k = a := fun z => hn (by rw [z]; simp)
      simp [this]
    · simp [e]
theorem lookK_set_ne {κ : Type} [DecidableEq κ] : ∀ {ks : List κ} {vs : List D} {k k2 : κ} {d : D}, ks.length = vs.length → k ≠ k2 → lookK ks (setK ks vs k d) k2 = lookK ks vs k2
  | [], _, k, k2, d, _, _ => by simp [lookK]
  | a :: ks, [], k, k2, d, h, _ => by simp at h
  | a :: ks, b :: vs, k, k2, d, h, hm => by
    have ih := lookK_set_ne (ks := ks) (vs := vs) (k := k) (k2 := k2) (d := d) (by simpa using h) hm
    unfold setK
    by_cases e : a = k
    · subst e
      rw [if_pos rfl]
      unfold lookK
      rw [ih, if_neg hm, if_neg hm]
    · rw [if_neg e]
      unfold lookK
      rw [ih]
theorem lookK_set {κ : Type} [DecidableEq κ] {ks : List κ} {vs : List D} {k k2 : κ} {d : D} (h : ks.length = vs.length) (hm : k ∈ ks) : lookK ks (setK ks vs k d) k2 = if k = k2 then some d else lookK ks vs k2 := by
  by_cases e : k = k2
  · subst e
    rw [if_pos rfl]
    revert h hm
    induction ks generalizing vs with
    | nil => intro _ hm; cases hm
    | cons a ks ih =>
      intro h hm
      cases vs with
      | nil => simp at h
      | cons b vs =>
        unfold setK
        by_cases e : a = k
        · subst e; simp [lookK]
        · rw [if_neg e]
          unfold lookK
          rw [if_neg e]
          refine ih (by simpa using h) ?_
          rcases List.mem_cons.mp hm with z | z
          · exact absurd z.symm e
          · exact z
  · rw [if_neg e, lookK_set_ne h e]
theorem setK_length {κ : Type} [DecidableEq κ] : ∀ {ks : List κ} {vs : List D} {k : κ} {d : D}, ks.length = vs.length → (setK ks vs k d).length = vs.length
  | [], [], _, _, _ => rfl
  | [], _ :: _, _, _, h => by simp at h
  | a :: ks, [], _, _, h => by simp at h
  | a :: ks, b :: vs, k, d, h => by
    unfold setK
    split
    · simp [setK_length (ks := ks) (vs := vs) (by simpa using h)]
    · simp [setK_length (ks := ks) (vs := vs) (by simpa using h)]
theorem look_put {κ : Type} [DecidableEq κ] {ks : List κ} {vs : List D} {k k2 : κ} {d : D} (h : ks.length = vs.length) : lookK (putKs ks k) (putVs ks vs k d) k2 = if k = k2 then some d else lookK ks vs k2 := by
  unfold putKs putVs
  by_cases hm : k ∈ ks
  · rw [if_pos hm, if_pos hm]; exact lookK_set h hm
  · rw [if_neg hm, if_neg hm]; exact lookK_app h hm
theorem put_len_eq {κ : Type} [DecidableEq κ] {ks : List κ} {vs : List D} {k : κ} {d : D} (h : ks.length = vs.length) : (putKs ks k).length = (putVs ks vs k d).length := by
  unfold putKs putVs
  by_cases hm : k ∈ ks
  · rw [if_pos hm, if_pos hm, setK_length h, h]
  · rw [if_neg hm, if_neg hm]; simp [h]
theorem put_len_le {κ : Type} [DecidableEq κ] {ks : List κ} {k : κ} : (putKs ks k).length ≤ ks.length + 1 := by
  unfold putKs
  split <;> simp
theorem nr_set {κ : Type} [DecidableEq κ] : ∀ {ks : List κ} {vs : List D} {k : κ} {d : D}, nrL vs = true → nrD d = true → nrL (setK ks vs k d) = true
  | [], _, _, _, _, _ => by simp [setK]
  | a :: ks, [], _, _, _, _ => by simp [setK]
  | a :: ks, b :: vs, k, d, h, hd => by
    obtain ⟨h1, h2⟩ := and2 (show (nrD b && nrL vs) = true from h)
    unfold setK
    split
    · rw [nrL_cons, hd, nr_set h2 hd]; rfl
    · rw [nrL_cons, h1, nr_set h2 hd]; rfl
theorem nrL_app {a b : List D} : nrL (a ++ b) = (nrL a && nrL b) := by
  induction a with
  | nil => rfl
  | cons x a ih => rw [List.cons_append, nrL_cons, nrL_cons, ih, Bool.and_assoc]
theorem nr_put {κ : Type} [DecidableEq κ] {ks : List κ} {vs : List D} {k : κ} {d : D} (h : nrL vs = true) (hd : nrD d = true) : nrL (putVs ks vs k d) = true := by
  unfold putVs
  split
  · exact nr_set h hd
  · rw [nrL_app, h, nrL_cons, hd]; rfl
/-- a for that runs through and changes the store -/
theorem fr_foldS {α β : Type} {t : T} {b : Env' → List O → Fl} (e : α → D) (J : β → Env' → List O → Prop) (f : β → α → β) : ∀ {xs : List α} {ρ : Env'} {S : List O} {z : β}, J z ρ S →
    (∀ ys x zs, xs = ys ++ x :: zs → ∀ ρ S, J (ys.foldl f z) ρ S → ∃ ρ' ρ2 S2, asT t (e x) ρ = some ρ' ∧ b ρ' S = .nx ρ2 S2 ∧ J (f (ys.foldl f z) x) ρ2 S2) →
    ∃ ρ2 S2, frGo [] t b (xs.map e) ρ S = .nx ρ2 S2 ∧ J (xs.foldl f z) ρ2 S2
  | [], ρ, S, z, hi, h => ⟨ρ, S, fr_0, hi⟩
  | x :: xs, ρ, S, z, hi, h => by
    obtain ⟨ρ', ρ2, S2, ha, h1, h2⟩ := h [] x xs rfl ρ S hi
    obtain ⟨ρ3, S3, h3, h4⟩ := fr_foldS (b := b) (t := t) e J f (xs := xs) h2 fun ys y zs hy ρ S hj => h (x :: ys) y zs (by rw [hy]; rfl) ρ S hj
    refine ⟨ρ3, S3, ?_, h4⟩
    rw [List.map_cons, fr_1, ha]
    dsimp only
    rw [h1]
    exact h3
theorem fr_foldSK {α β : Type} {t : T} {b : Env' → List O → Fl} {k : Env' → List O → Fl} {S : List O} {P : Fl → Prop} (e : α → D) (J : β → Env' → List O → Prop) (f : β → α → β) {xs : List α} {ρ : Env'} {z : β} (h0 : J z ρ S)
    (h : ∀ ys x zs, xs = ys ++ x :: zs → ∀ ρ S, J (ys.foldl f z) ρ S → ∃ ρ' ρ2 S2, asT t (e x) ρ = some ρ' ∧ b ρ' S = .nx ρ2 S2 ∧ J (f (ys.foldl f z) x) ρ2 S2)
    (hk : ∀ ρ2 S2, J (xs.foldl f z) ρ2 S2 → P (k ρ2 S2)) : P ((frGo [] t b (xs.map e) ρ S).bind k) := by
  obtain ⟨ρ2, S2, h1, h2⟩ := fr_foldS e J f h0 h
  rw [h1]
  exact hk ρ2 S2 h2
/-- what was stored and only one object changed -/
theorem gcR_one {S T : List O} {n : Nat} {o : O} {d : D} (hd : clD S.length d = true) (ho : clO S.length o = true) (hn : n < S.length) : gcR S (.ok d (S.set n o ++ T)) = .ok d (S.set n o) := by
  refine gcR_set (by simp) (fun m hm => ?_) hd
  by_cases e : n = m
  · subst e
    exact .inr ⟨o, by simp [hn], ho⟩
  · exact .inl (by simp [e])
/-- [.. for x in xs ..], xs a stored list -/
theorem lc_goG {α : Type} {gd : List (Nat × List D)} {g : D → List O → R (Option D)} {S : List O} (e : α → D) (f : α → Option D) (hg : ∀ acc, gdOk (S ++ [.lst acc]) gd) : ∀ {xs : List α} {acc : List D}, (∀ x ∈ xs, ∀ acc, g (e x) (S ++ [.lst acc]) = .ok (f x) (S ++ [.lst acc])) → acc.length + xs.length ≤ sizeLine →
    lcGo S.length gd g (xs.map e) (S ++ [.lst acc]) = .ok () (S ++ [.lst (acc ++ xs.filterMap f)])
  | [], acc, hf, hz => by
    rw [List.map_nil]
    unfold lcGo
    rw [if_pos (hg _)]
    simp
  | d :: ds, acc, hf, hz => by
    rw [List.map_cons]
    unfold lcGo
    rw [if_pos (hg _), hf d List.mem_cons_self acc]
    cases hgd : f d with
    | none =>
      dsimp only
      rw [lc_goG e f hg (fun e he => hf e (List.mem_cons_of_mem _ he)) (by simp at hz ⊢; omega)]
      simp [hgd]
    | some x =>
      dsimp only
      have h1 : (S ++ [O.lst acc])[S.length]? = some (.lst acc) := by simp
      have h2 : (S ++ [O.lst acc]).set S.length (.lst (acc ++ [x])) = S ++ [.lst (acc ++ [x])] := by simp
      rw [h1]
      dsimp only
      rw [if_pos (by simp at hz; omega), h2, lc_goG e f hg (fun e he => hf e (List.mem_cons_of_mem _ he)) (by simp at hz ⊢; omega)]
      simp [hgd]
theorem lc_mapG {α : Type} {S : List O} {n : Nat} {ds : List D} {g : D → List O → R (Option D)} {xs : List α} (e : α → D) (f : α → D) (hs : S[n]? = some (.lst ds)) (h : ∀ x ∈ xs, ∀ T, g (e x) T = .ok (some (f x)) T) (hz : xs.length ≤ 10000) (hn : ∀ x ∈ xs, nrD (f x) = true) :
    gcR S (lcE [(n, ds)] g (xs.map e) S) = .ok (.lst (xs.map f)) S := by
  have hlt : n < S.length := by
    rcases Nat.lt_or_ge n S.length with h | h
    · exact h
    · rw [List.getElem?_eq_none h] at hs; cases hs
  unfold lcE
  rw [lc_goG e (fun x => some (f x)) (fun acc => by
    show (match (S ++ [O.lst acc])[n]? with
      | some (.lst es) => es = ds
      | _ => False) ∧ True
    rw [List.getElem?_append_left hlt, hs]
    exact ⟨rfl, trivial⟩) (fun x hx acc => h x hx _) (by simp [szl]; omega)]
  simp only [lcR_ok, List.nil_append]
  rw [List.filterMap_eq_map']
  refine gcR_lst (nr_clL _ (nrL_all fun d hd => ?_))
  obtain ⟨x, hx, rfl⟩ := List.mem_map.mp hd
  exact hn x hx
theorem mkS_inj {a b : List Nat} (h : mkS a = mkS b) : a = b := by have := congrArg Str.cps h; simpa using this
theorem get_lt {S : List O} {n : Nat} {o : O} (h : S[n]? = some o) : n < S.length := by
  rcases Nat.lt_or_ge n S.length with h2 | h2
  · exact h2
  · rw [List.getElem?_eq_none h2] at h; cases h
theorem app_lst {S : List O} {n : Nat} {ds : List D} {w : D} (h : S[n]? = some (.lst ds)) (hz : ds.length ≤ 100000) : methD .append (.ref n) [w] S = .ok .non (S.set n (.lst (ds ++ [w]))) := by
  have : ds.length < sizeLine := by rw [szl]; omega
  show (match S[n]? with
      | some (.lst ds) => if ds.length < sizeLine then R.ok D.non (S.set n (.lst (ds ++ [w]))) else .bad
      | _ => .bad) = _
  rw [h]
  dsimp only
  rw [if_pos this]
theorem at_app {S : List O} {n : Nat} {ds : List D} (h : S[n]? = some (.lst ds)) : MT.at .append S (.ref n) = true := by
  show (rdL S (.ref n)).isSome = true
  simp [rdL, listOf, h]
theorem ne_lst {S : List O} {n : Nat} {ds : List D} (h : S[n]? = some (.lst ds)) : eqDS true (.ref n) (.lst []) S = .ok (.bl (!ds.isEmpty)) S := by
  have h1 : listOf S (.ref n) = some ds := by simp [listOf, h]
  have h2 : listOf S (.lst []) = some [] := rfl
  unfold eqDS
  rw [h1, h2]
  cases ds with
  | nil => rfl
  | cons d ds => rfl
@[simp] theorem min_lst {a : Int} {S : List O} {xs : List D} {ns : List Int} (h : intsOf xs = some (a :: ns)) : minD [.lst xs] S = .ok (.int (minL a ns)) S := by
  simp [minD, rdL, listOf, h]
@[simp] theorem max_lst {a : Int} {S : List O} {xs : List D} {ns : List Int} (h : intsOf xs = some (a :: ns)) : maxD [.lst xs] S = .ok (.int (maxL a ns)) S := by
  simp [maxD, rdL, listOf, h]
theorem ints_map {α : Type} {f : α → D} {g : α → Int} (h : ∀ x, f x = .int (g x)) (xs : List α) : intsOf (xs.map f) = some (xs.map g) := by
  have : xs.map f = (xs.map g).map D.int := by simp [h, Function.comp_def]
  rw [this, intsOf_map]
theorem srcOf_ref {S : List O} {n : Nat} {ds : List D} (h : S[n]? = some (.lst ds)) : srcOf S (.ref n) = some ⟨ds, [(n, ds)]⟩ := by
  simp [srcOf, h]
theorem fb_asc {f : Fl} {k1 k2 : Env' → List O → Fl} : (f.bind k1).bind k2 = f.bind (hid (fun ρ S => (k1 ρ S).bind k2) .mk) := by cases f <;> rfl
section
variable {S : List O} {n : Nat} (hn : n < S.length) (a b x y : O)
include hn
theorem st_get : (S.set n a ++ [x])[n]? = some a := by
  rw [List.getElem?_append_left (by simpa using hn)]
  simp [hn]
theorem st_set : (S.set n a ++ [x]).set n b = S.set n b ++ [x] := by
  rw [List.set_append_left _ _ (by simpa using hn), List.set_set]
end
theorem st_top {S : List O} {n : Nat} (a x : O) : (S.set n a ++ [x])[S.length]? = some x := by
  rw [List.getElem?_append_right (by simp)]
  simp
theorem st_put {S : List O} {n : Nat} (a x y : O) : (S.set n a ++ [x]).set S.length y = S.set n a ++ [y] := by
  rw [List.set_append_right _ _ (by simp)]
  simp
theorem set_id {S : List O} {n : Nat} {o : O} (h : S[n]? = some o) : S.set n o = S := by
  refine List.ext_getElem? fun i => ?_
  rw [List.getElem?_set]
  split
  · rename_i e
    subst e
    rw [if_pos (get_lt h), h]
  · rfl
theorem foldl_snoc {α : Type} (ys : List α) : ∀ z : List α, ys.foldl (fun z p => z ++ [p]) z = z ++ ys := by
  induction ys with
  | nil => intro z; simp
  | cons y ys ih => intro z; rw [List.foldl_cons, ih]; simp
theorem put_put {κ : Type} [DecidableEq κ] {ks : List κ} {k : κ} : putKs (putKs ks k) k = putKs ks k := by
  have h : k ∈ putKs ks k := by
    unfold putKs
    split
    · assumption
    · simp
  show (if k ∈ putKs ks k then putKs ks k else putKs ks k ++ [k]) = putKs ks k
  rw [if_pos h]
@[simp] theorem idx_t20 {a b : D} {S : List O} : idxD (.tup [a, b]) (.int 0) S = .ok a S := rfl
@[simp] theorem idx_t21 {a b : D} {S : List O} : idxD (.tup [a, b]) (.int 1) S = .ok b S := rfl
@[simp] theorem idx_t30 {a b c : D} {S : List O} : idxD (.tup [a, b, c]) (.int 0) S = .ok a S := rfl
@[simp] theorem idx_t31 {a b c : D} {S : List O} : idxD (.tup [a, b, c]) (.int 1) S = .ok b S := rfl
@[simp] theorem idx_t32 {a b c : D} {S : List O} : idxD (.tup [a, b, c]) (.int 2) S = .ok c S := rfl
end Ev
end
section
set_option Elab.async false
set_option linter.all false
set_option maxRecDepth 100000
set_option maxHeartbeats 4000000
set_option autoImplicit false
/-! Ev, part U: lemmas to evaluate by: what lies on top of a store, remembered values. -/
namespace Ev
open PySem PySem.Spec PyProof.Rows L2
@[simp] theorem top_get0 {S T : List O} : (S ++ T)[S.length]? = T[0]? := by rw [List.getElem?_append_right (Nat.le_refl _), Nat.sub_self]
@[simp] theorem top_get {S T : List O} {j : Nat} : (S ++ T)[S.length + j]? = T[j]? := by
  rw [List.getElem?_append_right (by omega), Nat.add_sub_cancel_left]
@[simp] theorem top_set0 {S T : List O} {x : O} : (S ++ T).set S.length x = S ++ T.set 0 x := by
  rw [List.set_append_right _ _ (Nat.le_refl _), Nat.sub_self]
@[simp] theorem top_set {S T : List O} {x : O} {j : Nat} : (S ++ T).set (S.length + j) x = S ++ T.set j x := by
  rw [List.set_append_right _ _ (by omega), Nat.add_sub_cancel_left]
theorem low_get {S T : List O} {n : Nat} {o : O} (h : S[n]? = some o) : (S ++ T)[n]? = some o := by
  rw [List.getElem?_append_left (get_lt h)]; exact h
theorem low_set {S T : List O} {n : Nat} {o p : O} (h : S[n]? = some o) : (S ++ T).set n p = S.set n p ++ T := List.set_append_left _ _ (get_lt h)
theorem top_app {S T : List O} {ds : List D} {w : D} {j : Nat} (h : T[j]? = some (.lst ds)) (hz : ds.length ≤ 100000) : methD .append (.ref (S.length + j)) [w] (S ++ T) = .ok .non (S ++ T.set j (.lst (ds ++ [w]))) := by
  rw [app_lst (by rw [top_get]; exact h) hz, top_set]
/-! ### lists without doubles -/
theorem nodup_len {α : Type} [DecidableEq α] : ∀ {xs ys : List α}, xs.Nodup → (∀ x ∈ xs, x ∈ ys) → xs.length ≤ ys.length
  | [], _, _, _ => Nat.zero_le _
  | x :: xs, ys, hn, hs => by
    obtain ⟨h1, h2⟩ := List.nodup_cons.mp hn
    have hx := hs x List.mem_cons_self
    have : xs.length ≤ (ys.erase x).length := nodup_len h2 fun y hy => by
      have hne : y ≠ x := fun z => by subst z; exact h1 hy
      exact (List.mem_erase_of_ne hne).mpr (hs y (List.mem_cons_of_mem _ hy))
    rw [List.length_erase_of_mem hx] at this
    have hp := List.length_pos_of_mem hx
    simp; omega
theorem nodup_put {κ : Type} [DecidableEq κ] {ks : List κ} {k : κ} (h : ks.Nodup) : (putKs ks k).Nodup := by
  unfold putKs
  split
  · exact h
  · rename_i hn
    rw [List.nodup_append]
    refine ⟨h, by simp, fun a ha b hb => ?_⟩
    simp at hb; subst hb; rintro rfl; exact hn ha
theorem mem_put {κ : Type} [DecidableEq κ] {ks : List κ} {k a : κ} (h : a ∈ putKs ks k) : a ∈ ks ∨ a = k := by
  unfold putKs at h
  split at h
  · exact .inl h
  · simpa using h
/-! ### what is remembered: keys from U, values by val -/
structure Mem {κ : Type} [DecidableEq κ] (U : List κ) (val : κ → D) (ks : List κ) (vs : List D) : Prop where
  len : ks.length = vs.length
  nr : nrL vs = true
  nd : ks.Nodup
  sub : ∀ k ∈ ks, k ∈ U
  val : ∀ k w, lookK ks vs k = some w → w = val k
section
variable {κ : Type} [DecidableEq κ] {U : List κ} {val : κ → D} {ks : List κ} {vs : List D}
theorem Mem.nil : Mem U val [] [] := ⟨rfl, rfl, by simp, by simp, fun _ _ h => nomatch h⟩
theorem Mem.le (h : Mem U val ks vs) : ks.length ≤ U.length := nodup_len h.nd h.sub
theorem Mem.put (h : Mem U val ks vs) {k : κ} {w : D} (hk : k ∈ U) (hw : nrD w = true) (e : w = val k) : Mem U val (putKs ks k) (putVs ks vs k w) := by
  refine ⟨put_len_eq h.len, nr_put h.nr hw, nodup_put h.nd, fun a ha => ?_, fun k2 w2 h2 => ?_⟩
  · rcases mem_put ha with ha | rfl
    · exact h.sub a ha
    · exact hk
  · rw [look_put h.len] at h2
    split at h2
    · rename_i e2
      cases h2
      rw [e, e2]
    · exact h.val k2 w2 h2
theorem Mem.put2 (h : Mem U val ks vs) {k : κ} {w0 w : D} (hk : k ∈ U) (h0 : nrD w0 = true) (hw : nrD w = true) (e : w = val k) : Mem U val (putKs (putKs ks k) k) (putVs (putKs ks k) (putVs ks vs k w0) k w) := by
  have l1 := put_len_eq (k := k) (d := w0) h.len
  refine ⟨put_len_eq l1, nr_put (nr_put h.nr h0) hw, nodup_put (nodup_put h.nd), fun a ha => ?_, fun k2 w2 h2 => ?_⟩
  · rcases mem_put ha with ha | rfl
    · rcases mem_put ha with ha | rfl
      · exact h.sub a ha
      · exact hk
    · exact hk
  · rw [look_put l1] at h2
    split at h2
    · rename_i e2
      cases h2
      rw [e, e2]
    · rename_i e2
      rw [look_put h.len, if_neg e2] at h2
      exact h.val k2 w2 h2
theorem Mem.got (h : Mem U val ks vs) {k : κ} {w : D} : lookK (putKs ks k) (putVs ks vs k w) k = some w := by rw [look_put h.len, if_pos rfl]
end
/-- a text's key -/
abbrev kS (cs : List Nat) : Key := .inr (mkS cs)
/-- all texts of so many of some signs -/
def words (al : List Nat) : Nat → List (List Nat)
  | 0 => [[]]
  | n + 1 => (words al n).flatMap fun w => al.map fun c => c :: w
theorem words_len (al : List Nat) : ∀ n, (words al n).length = al.length ^ n
  | 0 => rfl
  | n + 1 => by
    have ih := words_len al n
    have : ∀ ws : List (List Nat), (ws.flatMap fun w => al.map fun c => c :: w).length = ws.length * al.length := fun ws => by
      induction ws with
      | nil => simp
      | cons w ws ih => rw [List.flatMap_cons, List.length_append, ih, List.length_map, List.length_cons, Nat.add_mul]; omega
    show (List.flatMap _ (words al n)).length = _
    rw [this, ih, Nat.pow_succ]
theorem words_mem {al : List Nat} : ∀ {w : List Nat}, (∀ c ∈ w, c ∈ al) → w ∈ words al w.length
  | [], _ => by simp [words]
  | c :: w, h => by
    show c :: w ∈ List.flatMap _ (words al w.length)
    exact List.mem_flatMap.mpr ⟨w, words_mem fun d hd => h d (List.mem_cons_of_mem _ hd), List.mem_map.mpr ⟨c, h c List.mem_cons_self, rfl⟩⟩
/-- keys of words -/
def wordKs (al : List Nat) (n : Nat) : List Key := (words al n).map kS
theorem wordKs_len (al : List Nat) (n : Nat) : (wordKs al n).length = al.length ^ n := by unfold wordKs; rw [List.length_map, words_len]
theorem wordKs_mem {al w : List Nat} {n : Nat} (h : ∀ c ∈ w, c ∈ al) (hl : w.length = n) : kS w ∈ wordKs al n := List.mem_map.mpr ⟨w, by subst hl; exact words_mem h, rfl⟩
/-! ### a body in pieces -/
def Ss.hd : Ss → Ev.S
  | .cons s _ => s
  | .nil => .pass
def Ss.tl : Ss → Ss
  | .cons _ r => r
  | .nil => .nil
def Ss.dr : Nat → Ss → Ss
  | 0, b => b
  | n + 1, b => (b.dr n).tl
def Ss.lth : Ss → Nat
  | .cons _ r => r.lth + 1
  | .nil => 0
/-- the first statement, then the rest -/
theorem cut {t : Ct} {C : Orc} {hx : Option Exn} {ρ : Env'} {S : List O} (b : Ss) : evSs t C b hx ρ S = (evS t C b.hd hx ρ S).bind fun ρ S => evSs t C b.tl hx ρ S := by
  cases b with
  | nil => rfl
  | cons s r => rfl
/-! ### comprehensions that change one stored thing -/
theorem gcR_lset {S : List O} {n : Nat} {o : O} {ds : List D} (hn : n < S.length) (ho : clO S.length o = true) (h : clL S.length ds = true) : gcR S (.ok (.ref S.length) (S.set n o ++ [.lst ds])) = .ok (.lst ds) (S.set n o) := by
  refine gcR_app (by simp) (fun m hm => ?_) ?_
  · by_cases e : n = m
    · subst e
      exact .inr ⟨o, by simp [hn], ho⟩
    · exact .inl (by simp [e])
  · show frzN S.length (S.set n o ++ [.lst ds]) 6 S.length = _
    unfold frzN
    rw [if_neg (by omega)]
    have : (S.set n o ++ [O.lst ds])[S.length]? = some (.lst ds) := by
      rw [List.getElem?_append_right (by simp)]; simp
    rw [this]
    show (frzL _ ds).map _ = _
    rw [frz_idL (fun m hm => frzN_old 5 m hm) ds h]
    rfl
theorem lcGo_rel {α : Type} {S : List O} {n : Nat} {g : D → List O → R (Option D)} {Q : O → Prop} (e : α → D) (P : α → D → Prop) (hn : n < S.length) : ∀ {xs : List α} {acc : List D} {o : O}, Q o → (∀ x ∈ xs, ∀ o acc, Q o → ∃ o' y, g (e x) (S.set n o ++ [.lst acc]) = .ok (some y) (S.set n o' ++ [.lst acc]) ∧ Q o' ∧ P x y) → acc.length + xs.length ≤ sizeLine →
    ∃ o' ys, lcGo S.length [] g (xs.map e) (S.set n o ++ [.lst acc]) = .ok () (S.set n o' ++ [.lst (acc ++ ys)]) ∧ Q o' ∧ ys.length = xs.length ∧ ∀ p ∈ xs.zip ys, P p.1 p.2
  | [], acc, o, hq, h, hz => ⟨o, [], by
      rw [List.map_nil]
      unfold lcGo
      rw [if_pos (show gdOk _ [] from trivial), List.append_nil], hq, rfl, by simp⟩
  | x :: xs, acc, o, hq, h, hz => by
    obtain ⟨o1, y, e1, q1, p1⟩ := h x List.mem_cons_self o acc hq
    obtain ⟨o2, ys, e2, q2, l2, p2⟩ := lcGo_rel (xs := xs) (acc := acc ++ [y]) e P hn q1 (fun z hz => h z (List.mem_cons_of_mem _ hz)) (by simp at hz ⊢; omega)
    refine ⟨o2, y :: ys, ?_, q2, by simp [l2], ?_⟩
    · rw [List.map_cons]
      unfold lcGo
      rw [if_pos (show gdOk _ [] from trivial), e1]
      dsimp only
      have h1 : (S.set n o1 ++ [O.lst acc])[S.length]? = some (.lst acc) := st_top _ _
      rw [h1]
      dsimp only
      rw [if_pos (by simp at hz; omega), st_put, e2]
      simp
    · intro q hq
      rw [List.zip_cons_cons] at hq
      rcases List.mem_cons.mp hq with rfl | hq
      · exact p1
      · exact p2 q hq
/-- [.. for x in xs], the thing at n being changed on the way -/
theorem lcE_rel {α : Type} {S : List O} {n : Nat} {o : O} {g : D → List O → R (Option D)} {Q : O → Prop} {xs : List α} (e : α → D) (P : α → D → Prop) (hs : S[n]? = some o) (h0 : Q o) (hQ : ∀ o, Q o → clO S.length o = true) (h : ∀ x ∈ xs, ∀ o acc, Q o → ∃ o' y, g (e x) (S.set n o ++ [.lst acc]) = .ok (some y) (S.set n o' ++ [.lst acc]) ∧ Q o' ∧ P x y) (hz : xs.length ≤ 10000) (hv : ∀ x ∈ xs, ∀ y, P x y → nrD y = true) :
    ∃ o' ys, gcR S (lcE [] g (xs.map e) S) = .ok (.lst ys) (S.set n o') ∧ Q o' ∧ ys.length = xs.length ∧ ∀ p ∈ xs.zip ys, P p.1 p.2 := by
  have hn := get_lt hs
  obtain ⟨o', ys, e1, q1, l1, p1⟩ := lcGo_rel (acc := []) e P hn h0 h (by rw [szl]; simp; omega)
  refine ⟨o', ys, ?_, q1, l1, p1⟩
  unfold lcE
  rw [set_id hs] at e1
  rw [e1, lcR_ok, List.nil_append]
  refine gcR_lset hn (hQ _ q1) (nr_clL _ (nrL_all fun d hd => ?_))
  obtain ⟨i, hi, rfl⟩ := List.mem_iff_getElem.mp hd
  have := p1 (xs[i]'(by omega), ys[i]) (by
    rw [List.mem_iff_getElem]
    exact ⟨i, by simp; omega, by simp⟩)
  exact hv _ (List.getElem_mem _) _ this
theorem lcE_map {α : Type} {S : List O} {n : Nat} {o : O} {g : D → List O → R (Option D)} {Q : O → Prop} {xs : List α} (e : α → D) (v : α → D) (hs : S[n]? = some o) (h0 : Q o) (hQ : ∀ o, Q o → clO S.length o = true) (h : ∀ x ∈ xs, ∀ o acc, Q o → ∃ o', g (e x) (S.set n o ++ [.lst acc]) = .ok (some (v x)) (S.set n o' ++ [.lst acc]) ∧ Q o') (hz : xs.length ≤ 10000) (hv : ∀ x ∈ xs, nrD (v x) = true) :
    ∃ o', gcR S (lcE [] g (xs.map e) S) = .ok (.lst (xs.map v)) (S.set n o') ∧ Q o' := by
  obtain ⟨o', ys, e1, q1, l1, p1⟩ := lcE_rel e (fun x y => y = v x) hs h0 hQ (fun x hx o acc hq => by
    obtain ⟨o', a, b⟩ := h x hx o acc hq
    exact ⟨o', _, a, b, rfl⟩) hz (fun x hx y hy => by subst hy; exact hv x hx)
  have : ys = xs.map v := by
    refine List.ext_getElem (by simp [l1]) fun i h1 h2 => ?_
    have := p1 (xs[i]'(by omega), ys[i]) (by
      rw [List.mem_iff_getElem]
      exact ⟨i, by simp; omega, by simp⟩)
    simpa using this
  subst this
  exact ⟨o', e1, q1⟩
/-- == of tuples of plain things -/
theorem eqS_tt {neg : Bool} {a b : List D} {S : List O} (ha : ∀ d ∈ a, sclD d = true) (hb : ∀ d ∈ b, sclD d = true) : eqDS neg (.tup a) (.tup b) S = .ok (.bl (neg != eqL a b)) S := by
  show (if a = [] ∨ b = [] then R.ok (D.bl (neg != (a.length == b.length))) S else if (shD (.tup a) && shD (.tup b)) = true then .ok (.bl (neg != eqD (.tup a) (.tup b))) S else .bad) = _
  rw [sh_tup ha, sh_tup hb]
  cases a with
  | nil => cases b <;> simp
  | cons x a => cases b <;> simp
theorem eqS_ll {neg : Bool} {a b : List D} {S : List O} (ha : ∀ d ∈ a, sclD d = true) (hb : ∀ d ∈ b, sclD d = true) : eqDS neg (.lst a) (.lst b) S = .ok (.bl (neg != eqL a b)) S := by
  show (if a.length ≠ b.length then R.ok (D.bl neg) S else if (shD (.lst a) && shD (.lst b)) = true then .ok (.bl (neg != eqD (.lst a) (.lst b))) S else .bad) = _
  rw [sh_lst ha, sh_lst hb]
  by_cases h : a.length = b.length
  · simp [h]
  · have : eqL a b = false := by
      revert b
      induction a with
      | nil => intro b _ h; cases b with
        | nil => exact absurd rfl h
        | cons y b => rfl
      | cons x a ih => intro b hb h; cases b with
        | nil => rfl
        | cons y b =>
          rw [eqL_cc, ih (fun d hd => ha d (List.mem_cons_of_mem _ hd)) (fun d hd => hb d (List.mem_cons_of_mem _ hd)) (by simpa using h)]
          simp
    simp [h, this]
@[simp] theorem eqL_ints (a b : List Int) : eqL (a.map D.int) (b.map D.int) = (a == b) := by
  revert b
  induction a with
  | nil => intro b; cases b <;> rfl
  | cons x a ih => intro b; cases b with
    | nil => rfl
    | cons y b => rw [List.map_cons, List.map_cons, eqL_cc, ih, eq_int]; rfl
theorem minL_snoc (a b : Int) : ∀ r : List Int, minL a (r ++ [b]) = if b < minL a r then b else minL a r := fun r => by
  induction r generalizing a with
  | nil => rfl
  | cons c r ih => show minL _ (r ++ [b]) = _; rw [ih]; rfl
theorem maxL_snoc (a b : Int) : ∀ r : List Int, maxL a (r ++ [b]) = if b > maxL a r then b else maxL a r := fun r => by
  induction r generalizing a with
  | nil => rfl
  | cons c r ih => show maxL _ (r ++ [b]) = _; rw [ih]; rfl
/-- the least so far, None at first -/
def minO : List Int → D
  | [] => .non
  | a :: r => .int (minL a r)
def maxO : List Int → D
  | [] => .non
  | a :: r => .int (maxL a r)
@[simp] theorem min_2 {i j : Int} {S : List O} : minD [.int i, .int j] S = .ok (.int (if j < i then j else i)) S := rfl
@[simp] theorem max_2 {i j : Int} {S : List O} : maxD [.int i, .int j] S = .ok (.int (if j > i then j else i)) S := rfl
theorem rngL_map (lo : Int) : ∀ n : Nat, rngL lo n = (List.range n).map fun i => D.int (lo + (i : Nat))
  | 0 => rfl
  | n + 1 => by
    show D.int lo :: rngL (lo + 1) n = _
    rw [rngL_map (lo + 1) n, List.range_succ_eq_map, List.map_cons, List.map_map]
    simp [Function.comp_def, Int.add_assoc, Int.add_comm 1]
theorem rng_0 {n : Nat} {S : List O} (h : n ≤ 100000) : rngS (.int 0) (.int (n : Nat)) S = .ok ⟨(List.range n).map fun i => D.int (i : Nat), []⟩ S := by
  show (if inR 0 ∧ inR (n : Int) then R.ok (Src.mk (rngL 0 ((n : Int) - 0).toNat) []) S else .bad) = _
  have : inR (n : Int) := by unfold inR; omega
  rw [if_pos ⟨by decide, this⟩, rngL_map]
  simp
@[simp] theorem srcOf_str {S : List O} {cs : List Nat} : srcOf S (.str cs) = some ⟨cs.map fun c => .str [c], []⟩ := rfl
@[simp] theorem srcOf_lst {S : List O} {ds : List D} : srcOf S (.lst ds) = some ⟨ds, []⟩ := rfl
@[simp] theorem srcOf_fl {S : List O} {ds : List D} : srcOf S (.fl ds) = some ⟨ds, []⟩ := rfl
@[simp] theorem srcOf_tup {S : List O} {ds : List D} : srcOf S (.tup ds) = some ⟨ds, []⟩ := rfl
@[simp] theorem srcOf_ft {S : List O} {ds : List D} : srcOf S (.ft ds) = some ⟨ds, []⟩ := rfl
@[simp] theorem ofS_of {S : List O} {d : D} : ofS d S = (match srcOf S d with
  | some s => .ok s S
  | none => .bad) := rfl
/-! ### sorted -/
theorem alike_nats : ∀ a b : List Nat, PySem.W.alikeAll (pyL (a.map fun p => D.int (p : Nat))) (pyL (b.map fun p => D.int (p : Nat))) = true
  | [], _ => by simp [pyL, PySem.W.alikeAll]
  | x :: a, [] => by simp [pyL, PySem.W.alikeAll]
  | x :: a, y :: b => by
    show PySem.W.alikeAll (PyData.int x :: pyL (a.map fun p => D.int (p : Nat))) (PyData.int y :: pyL (b.map fun p => D.int (p : Nat))) = true
    rw [PySem.W.alikeAll, alike_nats a b]
    rfl
/-- a tuple of places -/
def tupI (ps : List Nat) : D := .tup (ps.map fun p => .int (p : Nat))
theorem sh_tupI (ps : List Nat) : shD (tupI ps) = true := sh_tup fun d hd => by
  obtain ⟨p, _, rfl⟩ := List.mem_map.mp hd
  rfl
theorem ok_tupI (ps : List Nat) : okD (tupI ps) = true := (Bool.and_eq_true_iff.mp (sh_tupI ps)).1
theorem depth_tupI (ps : List Nat) : (pyD (tupI ps)).depth ≤ 1 := by
  have := (scl_okL (ps.map fun p => D.int (p : Nat)) fun d hd => by
    obtain ⟨p, _, rfl⟩ := List.mem_map.mp hd
    rfl).2
  show (PyData.tuple (pyL (ps.map fun p => D.int (p : Nat)))).depth ≤ 1
  simp [PyData.depth, this]
theorem alike_tupI (a b : List Nat) : PySem.W.alike (pyD (tupI a)) (pyD (tupI b)) = true := by
  show PySem.W.alike (.tuple (pyL _)) (.tuple (pyL _)) = true
  rw [PySem.W.alike]
  exact alike_nats a b
@[simp] theorem nr_tupI (ps : List Nat) : nrD (tupI ps) = true := nrL_map fun _ => rfl
theorem srt_of {ds : List D} (h1 : ∀ d ∈ ds, shD d = true) (h2 : ∀ d ∈ ds, ∀ e ∈ ds, PySem.W.alike (pyD d) (pyD e) = true) (h3 : (∀ d ∈ ds, neTupB (pyD d) = true) ∨ (∀ d ∈ ds, othB (pyD d) = true) ∨ ((∃ r, ds = .tup [] :: r) ∧ ∀ d ∈ ds, isTupB (pyD d) = true)) : srtB ds = true := by
  unfold srtB
  have e1 : (ds.all fun d => shD d) = true := List.all_eq_true.mpr h1
  have e2 : (ds.all fun d => ds.all fun e => PySem.W.alike (pyD d) (pyD e)) = true := List.all_eq_true.mpr fun d hd => List.all_eq_true.mpr (h2 d hd)
  rw [e1, e2]
  rcases h3 with h3 | h3 | ⟨⟨r, rfl⟩, h3⟩
  · rw [List.all_eq_true.mpr h3]; rfl
  · rw [List.all_eq_true.mpr h3]; simp
  · rw [List.all_eq_true.mpr h3]
    show (true && true && (_ || _ || (true && true))) = true
    simp
theorem srt_map {α : Type} {f : α → D} {xs : List α} {S : List O} (h : srtB (xs.map f) = true) (hz : xs.length ≤ 100000) : sortedD [.lst (xs.map f)] S = .ok (.lst ((xs.mergeSort fun a b => leD (f a) (f b)).map f)) S := by
  show (if srtB (xs.map f) = true ∧ (xs.map f).length ≤ sizeLine then R.ok (D.lst ((xs.map f).mergeSort leD)) S else .bad) = _
  rw [if_pos ⟨h, by rw [szl]; simp; omega⟩, merge_map f leD xs]
theorem leD_total : PySem.W.TotalLe leD := PySem.W.sortLe_total (listOrd itemOrd) false fun d : D => PySem.W.keyToks (pyD d)
theorem sort_map_pw {α : Type} (f : α → D) (xs : List α) : (xs.mergeSort fun a b => leD (f a) (f b)).Pairwise fun a b => leD (f a) (f b) = true :=
  PySem.W.sort_pairwise (le := fun a b => leD (f a) (f b)) ⟨fun a b c h1 h2 => leD_total.trans (f a) (f b) (f c) h1 h2, fun a b => leD_total.total (f a) (f b)⟩ xs
theorem sort_map_mem {α : Type} {f : α → D} {xs : List α} {x : α} : x ∈ (xs.mergeSort fun a b => leD (f a) (f b)) ↔ x ∈ xs := (List.mergeSort_perm xs _).mem_iff
theorem add_tup {a b : List D} {S : List O} (h : a.length + b.length ≤ 100000) : addD (.tup a) (.tup b) S = .ok (.tup (a ++ b)) S := by
  show (if a.length + b.length ≤ sizeLine then R.ok (D.tup (a ++ b)) S else .bad) = _
  rw [if_pos (by rw [szl]; omega)]
theorem add_lst {a b : List D} {S : List O} (h : a.length + b.length ≤ 100000) : addD (.lst a) (.lst b) S = .ok (.lst (a ++ b)) S := by
  show (if a.length + b.length ≤ sizeLine then R.ok (D.lst (a ++ b)) S else .bad) = _
  rw [if_pos (by rw [szl]; omega)]
/-! ### loops told by what holds behind a turn -/
/-- it goes on, with .. -/
def Nx (J : Env' → List O → Prop) (f : Fl) : Prop := ∃ ρ S, f = .nx ρ S ∧ J ρ S
theorem Nx.mk {J : Env' → List O → Prop} {ρ : Env'} {S : List O} (h : J ρ S) : Nx J (.nx ρ S) := ⟨ρ, S, rfl, h⟩
theorem fr_N {α β : Type} {t : T} {b : Env' → List O → Fl} {gd : List (Nat × List D)} (e : α → D) (J : β → Env' → List O → Prop) (f : β → α → β) (hg : ∀ z ρ S, J z ρ S → gdOk S gd) : ∀ {xs : List α} {ρ : Env'} {S : List O} {z : β}, J z ρ S →
    (∀ ys x zs, xs = ys ++ x :: zs → ∀ ρ S, J (ys.foldl f z) ρ S → ∃ ρ', asT t (e x) ρ = some ρ' ∧ Nx (J (f (ys.foldl f z) x)) (b ρ' S)) →
    Nx (J (xs.foldl f z)) (frGo gd t b (xs.map e) ρ S)
  | [], ρ, S, z, hi, h => by rw [List.map_nil, fr_nil (hg z ρ S hi)]; exact ⟨_, _, rfl, hi⟩
  | x :: xs, ρ, S, z, hi, h => by
    obtain ⟨ρ', ha, ρ2, S2, h1, h2⟩ := h [] x xs rfl ρ S hi
    obtain ⟨ρ3, S3, h3, h4⟩ := fr_N (b := b) (t := t) e J f hg (xs := xs) h2 fun ys y zs hy ρ S hj => h (x :: ys) y zs (by rw [hy]; rfl) ρ S hj
    refine ⟨ρ3, S3, ?_, h4⟩
    rw [List.map_cons, fr_cons (hg z ρ S hi) ha, h1]
    exact h3
/-- a for that runs through, then the rest -/
theorem fr_NK {α β : Type} {t : T} {b : Env' → List O → Fl} {k : Env' → List O → Fl} {S : List O} {P : Fl → Prop} (e : α → D) (J : β → Env' → List O → Prop) (f : β → α → β) {xs : List α} {ρ : Env'} {z : β} (h0 : J z ρ S)
    (h : ∀ ys x zs, xs = ys ++ x :: zs → ∀ ρ S, J (ys.foldl f z) ρ S → ∃ ρ', asT t (e x) ρ = some ρ' ∧ Nx (J (f (ys.foldl f z) x)) (b ρ' S))
    (hk : ∀ ρ2 S2, J (xs.foldl f z) ρ2 S2 → P (k ρ2 S2)) : P ((frGo [] t b (xs.map e) ρ S).bind k) := by
  obtain ⟨ρ2, S2, h1, h2⟩ := fr_N (gd := []) e J f (fun _ _ _ _ => trivial) h0 h
  rw [h1]
  exact hk ρ2 S2 h2
/-- .. that may end the def -/
theorem fr_X {α : Type} {t : T} {b : Env' → List O → Fl} {k : Env' → List O → Fl} {gd : List (Nat × List D)} {P : Fl → Prop} (e : α → D) (J : List α → Env' → List O → Prop) (hg : ∀ z ρ S, J z ρ S → gdOk S gd) : ∀ {xs ys : List α} {ρ : Env'} {S : List O}, J ys ρ S →
    (∀ us x vs, xs = us ++ x :: vs → ∀ ρ S, J (ys ++ us) ρ S → ∃ ρ', asT t (e x) ρ = some ρ' ∧ (Nx (J (ys ++ us ++ [x])) (b ρ' S) ∨ (P (b ρ' S) ∧ ∀ ρ2 S2, b ρ' S ≠ .nx ρ2 S2))) →
    (∀ ρ2 S2, J (ys ++ xs) ρ2 S2 → P (k ρ2 S2)) → P ((frGo gd t b (xs.map e) ρ S).bind k)
  | [], ys, ρ, S, hi, h, hk => by rw [List.map_nil, fr_nil (hg _ ρ S hi)]; exact hk ρ S (by rw [List.append_nil]; exact hi)
  | x :: xs, ys, ρ, S, hi, h, hk => by
    obtain ⟨ρ', ha, h1⟩ := h [] x xs rfl ρ S (by rw [List.append_nil]; exact hi)
    rw [List.map_cons, fr_cons (hg _ ρ S hi) ha]
    rcases h1 with ⟨ρ2, S2, h1, h2⟩ | ⟨h1, h2⟩
    · rw [h1, fb_nx]
      rw [List.append_nil] at h2
      refine fr_X e J hg (ys := ys ++ [x]) h2 (fun us y vs hy ρ S hj => ?_) (fun ρ2 S2 hj => hk ρ2 S2 (by simpa using hj))
      have := h (x :: us) y vs (by rw [hy]; rfl) ρ S (by simpa using hj)
      simpa using this
    · cases hb : b ρ' S with
      | nx ρ2 S2 => exact absurd hb (h2 _ _)
      | rt d S2 => rw [hb] at h1; exact h1
      | ex y ρ2 S2 => rw [hb] at h1; exact h1
      | bad => rw [hb] at h1; exact h1
/-- .. its value being r -/
theorem lcE_res {α : Type} {S : List O} {n : Nat} {o : O} {g : D → List O → R (Option D)} {its : List D} {r : R D} (hr : gcR S (lcE [] g its S) = r) {Q : O → Prop} {xs : List α} (e : α → D) (v : α → D) (hi : its = xs.map e) (hs : S[n]? = some o) (h0 : Q o) (hQ : ∀ o, Q o → clO S.length o = true) (h : ∀ x ∈ xs, ∀ o acc, Q o → ∃ o', g (e x) (S.set n o ++ [.lst acc]) = .ok (some (v x)) (S.set n o' ++ [.lst acc]) ∧ Q o') (hz : xs.length ≤ 10000) (hv : ∀ x ∈ xs, nrD (v x) = true) :
    ∃ o', r = .ok (.lst (xs.map v)) (S.set n o') ∧ Q o' := by
  subst hr hi
  exact lcE_map e v hs h0 hQ h hz hv
theorem lcE_resP {α : Type} {S : List O} {n : Nat} {o : O} {g : D → List O → R (Option D)} {its : List D} {r : R D} (hr : gcR S (lcE [] g its S) = r) {Q : O → Prop} {xs : List α} (e : α → D) (P : α → D → Prop) (hi : its = xs.map e) (hs : S[n]? = some o) (h0 : Q o) (hQ : ∀ o, Q o → clO S.length o = true) (h : ∀ x ∈ xs, ∀ o acc, Q o → ∃ o' y, g (e x) (S.set n o ++ [.lst acc]) = .ok (some y) (S.set n o' ++ [.lst acc]) ∧ Q o' ∧ P x y) (hz : xs.length ≤ 10000) (hv : ∀ x ∈ xs, ∀ y, P x y → nrD y = true) :
    ∃ o' ys, r = .ok (.lst ys) (S.set n o') ∧ Q o' ∧ ys.length = xs.length ∧ ∀ p ∈ xs.zip ys, P p.1 p.2 := by
  subst hr hi
  exact lcE_rel e P hs h0 hQ h hz hv
/-- a stored memory -/
def MemO (U : List Key) (val : Key → D) (o : O) : Prop := ∃ ks vs, o = .dK ks vs ∧ Mem U val ks vs
theorem MemO.cl {U : List Key} {val : Key → D} {o : O} (h : MemO U val o) (n : Nat) : clO n o = true := by
  obtain ⟨ks, vs, rfl, hm⟩ := h
  exact nr_clL _ hm.nr
theorem MemO.nil {U : List Key} {val : Key → D} : MemO U val (.dK [] []) := ⟨[], [], rfl, Mem.nil⟩
theorem MemO.put {U : List Key} {val : Key → D} {ks : List Key} {vs : List D} (h : Mem U val ks vs) {k : Key} {w : D} (hk : k ∈ U) (hw : nrD w = true) (e : w = val k) : MemO U val (.dK (putKs ks k) (putVs ks vs k w)) := ⟨_, _, rfl, h.put hk hw e⟩
def keyL : Key → List Nat
  | .inr s => s.cps.toList
  | .inl _ => []
@[simp] theorem keyL_kS (cs : List Nat) : keyL (.inr (mkS cs)) = cs := by simp [keyL]
theorem nat_sz {n : Nat} (h : n ≤ 100000) : (n ≤ sizeLine) = True := by rw [szl]; exact eq_true (by omega)
theorem shut {α : Sort _} (J : α) : ∃ K, K = J := ⟨_, rfl⟩
/-- a comprehension that changes nothing, its value being r -/
theorem lc_resV {α : Type} {S : List O} {g : D → List O → R (Option D)} {its : List D} {r : R D} (hr : gcR S (lcE [] g its S) = r) {xs : List α} (e : α → D) (f : α → D) (hi : its = xs.map e) (h : ∀ x ∈ xs, ∀ T, g (e x) T = .ok (some (f x)) T) (hz : xs.length ≤ 10000) (hn : ∀ x ∈ xs, nrD (f x) = true) : r = .ok (.lst (xs.map f)) S := by
  subst hr hi
  exact lc_map e f h hz hn
theorem lc_resF {α : Type} {S : List O} {g : D → List O → R (Option D)} {its : List D} {r : R D} (hr : gcR S (lcE [] g its S) = r) {xs : List α} (e : α → D) (p : α → Bool) (f : α → D) (hi : its = xs.map e) (h : ∀ x ∈ xs, ∀ T, g (e x) T = .ok (if p x = true then some (f x) else none) T) (hz : xs.length ≤ 10000) (hn : ∀ x ∈ xs, nrD (f x) = true) : r = .ok (.lst ((xs.filter p).map f)) S := by
  subst hr hi
  exact lc_flt e p f h hz hn
/-! ### while, by a measure -/
theorem wh_of {c : Env' → List O → R Bool} {b : Env' → List O → Fl} {k : Env' → List O → Fl} {P : Fl → Prop} (J : Nat → Env' → List O → Prop)
    (step : ∀ n ρ S, J n ρ S → (∃ S', c ρ S = .ok false S' ∧ P (k ρ S')) ∨ (∃ S', c ρ S = .ok true S' ∧ ((∃ n', n' < n ∧ Nx (J n') (b ρ S')) ∨ (P (b ρ S') ∧ ∀ ρ2 S2, b ρ S' ≠ .nx ρ2 S2)))) : ∀ (n : Nat) (ρ : Env') (S : List O), J n ρ S → ∃ m f, whF c b m ρ S = some f ∧ P (f.bind k) := by
  intro n
  induction n using Nat.strongRecOn with
  | ind n ih =>
  intro ρ S hj
  rcases step n ρ S hj with ⟨S', h1, h2⟩ | ⟨S', h1, ⟨n', hn, ρ2, S2, h2, h3⟩ | ⟨h2, h3⟩⟩
  · exact ⟨1, .nx ρ S', by unfold whF; rw [h1], h2⟩
  · obtain ⟨m, f, e, p⟩ := ih n' hn ρ2 S2 h3
    refine ⟨m + 1, f, ?_, p⟩
    unfold whF
    rw [h1]
    dsimp only
    rw [h2]
    exact e
  · refine ⟨1, b ρ S', ?_, ?_⟩
    · unfold whF
      rw [h1]
      dsimp only
      cases hb : b ρ S' with
      | nx ρ2 S2 => exact absurd hb (h3 _ _)
      | rt d S2 => rfl
      | ex y ρ2 S2 => rfl
      | bad => rfl
    · cases hb : b ρ S' with
      | nx ρ2 S2 => exact absurd hb (h3 _ _)
      | rt d S2 => rw [hb] at h2; exact h2
      | ex y ρ2 S2 => rw [hb] at h2; exact h2
      | bad => rw [hb] at h2; exact h2
theorem wh_K {c : Env' → List O → R Bool} {b : Env' → List O → Fl} {k : Env' → List O → Fl} {P : Fl → Prop} {n : Nat} {ρ : Env'} {S : List O} (J : Nat → Env' → List O → Prop) (h0 : J n ρ S)
    (step : ∀ n ρ S, J n ρ S → (∃ S', c ρ S = .ok false S' ∧ P (k ρ S')) ∨ (∃ S', c ρ S = .ok true S' ∧ ((∃ n', n' < n ∧ Nx (J n') (b ρ S')) ∨ (P (b ρ S') ∧ ∀ ρ2 S2, b ρ S' ≠ .nx ρ2 S2)))) : P ((whC c b ρ S).bind k) := by
  obtain ⟨m, f, e, p⟩ := wh_of J step n ρ S h0
  rw [whC_of e]
  exact p
/-! ### a list on top of the store -/
section
variable {S : List O} {ds : List D} {w : D}
theorem pop_top : methD .pop (.ref S.length) [] (S ++ [.lst (ds ++ [w])]) = .ok w (S ++ [.lst ds]) := by
  simp [methD]
theorem app_top (h : ds.length ≤ 100000) : methD .append (.ref S.length) [w] (S ++ [.lst ds]) = .ok .non (S ++ [.lst (ds ++ [w])]) := by
  rw [app_lst (by simp) h]; simp
@[simp] theorem at_app_top : MT.at .append (S ++ [.lst ds]) (.ref S.length) = true := at_app (ds := ds) (by simp)
@[simp] theorem at_pop_top : MT.at .pop (S ++ [.lst ds]) (.ref S.length) = true := at_app (ds := ds) (by simp)
theorem ne_top : eqDS true (.ref S.length) (.lst []) (S ++ [.lst ds]) = .ok (.bl (!ds.isEmpty)) (S ++ [.lst ds]) := ne_lst (by simp)
end
/-- == () -/
theorem eqS_t0 {neg : Bool} {a : List D} {S : List O} : eqDS neg (.tup a) (.tup []) S = .ok (.bl (neg != a.isEmpty)) S := by
  show (if a = [] ∨ ([] : List D) = [] then R.ok (D.bl (neg != (a.length == ([] : List D).length))) S else if (shD (.tup a) && shD (.tup [])) = true then .ok (.bl (neg != eqD (.tup a) (.tup []))) S else .bad) = _
  rw [if_pos (.inr rfl)]
  cases a <;> rfl
/-! ### things of any plain kind -/
mutual
/-- nothing stored, no instances, no written tuples within -/
def plD : D → Bool
  | .non | .bl _ | .int _ | .str _ => true
  | .tup ds | .lst ds => plL ds
  | .dk _ ds | .dt _ ds => plL ds
  | _ => false
def plL : List D → Bool
  | [] => true
  | d :: ds => plD d && plL ds
end
def isIntD : D → Bool
  | .int _ => true
  | _ => false
def isTupD : D → Bool
  | .tup _ => true
  | _ => false
/-- is a number among places -/
theorem any_tupI {ps : List Nat} {p : Int} : (((ps.map fun p => D.int (p : Nat)).any fun z => eqD z (.int p)) = true) ↔ (0 ≤ p ∧ p.toNat ∈ ps) := by
  rw [List.any_eq_true]
  constructor
  · rintro ⟨z, hz, h⟩
    obtain ⟨q, hq, rfl⟩ := List.mem_map.mp hz
    rw [eq_int] at h
    have : (q : Int) = p := by simpa using h
    subst this
    exact ⟨by omega, by simpa using hq⟩
  · rintro ⟨h0, h1⟩
    exact ⟨.int p, List.mem_map.mpr ⟨p.toNat, h1, by simp [Int.toNat_of_nonneg h0]⟩, by simp⟩
theorem in_tupI {neg : Bool} {ps : List Nat} {p : Int} {S : List O} : inDS neg (.int p) (tupI ps) S = .ok (.bl (neg != (decide (0 ≤ p) && ps.contains p.toNat))) S := by
  have e : ((ps.map fun p => D.int (p : Nat)).any fun z => eqD z (.int p)) = (decide (0 ≤ p) && ps.contains p.toNat) := by
    rw [Bool.eq_iff_iff, any_tupI]
    simp
  show (if (shD (.int p) && shD (tupI ps)) = true then R.ok (D.bl (neg != (ps.map fun p => D.int (p : Nat)).any fun z => eqD z (.int p))) S else .bad) = _
  rw [sh_tupI, e]
  rfl
@[simp] theorem eqS_bl {neg a b : Bool} {S : List O} : eqDS neg (.bl a) (.bl b) S = .ok (.bl (neg != (a == b))) S := eqS_scl rfl rfl
@[simp] theorem eqS_in {neg : Bool} {i j : Int} {S : List O} : eqDS neg (.int i) (.int j) S = .ok (.bl (neg != (i == j))) S := rfl
/-- "".join(signs) -/
theorem join_chars {cs : List Nat} {S : List O} (h : cs.length ≤ 100000) : methD .join (.str []) [.lst (cs.map fun c => D.str [c])] S = .ok (.str cs) S := by
  have e1 : strsOf (cs.map fun c => D.str [c]) = some (cs.map fun c => [c]) := by
    rw [show (cs.map fun c => D.str [c]) = (cs.map fun c => [c]).map D.str by simp [Function.comp_def], strsOf_map]
  have e2 : ∀ cs : List Nat, joinL [] (cs.map fun c => [c]) = cs := fun cs => by
    induction cs with
    | nil => rfl
    | cons c cs ih => cases cs with
      | nil => rfl
      | cons d cs => show [c] ++ [] ++ joinL [] ((d :: cs).map fun c => [c]) = _; rw [ih]; rfl
  have e3 : ∀ cs : List Nat, ((cs.map fun c => [c]).map (fun y : List Nat => y.length)).sum = cs.length := fun cs => by
    induction cs with
    | nil => rfl
    | cons c cs ih => simp only [List.map_cons, List.sum_cons, ih, List.length_cons, List.length_nil]; omega
  show (match strsOf (cs.map fun c => D.str [c]) with
    | some ys => if (ys.map (fun y : List Nat => y.length)).sum + ys.length * ([] : List Nat).length ≤ 16777216 then R.ok (D.str (joinL [] ys)) S else .bad
    | none => .bad) = _
  rw [e1]
  dsimp only
  rw [e2, e3, if_pos (by simp; omega)]
theorem idx_nat {ds : List D} {n : Nat} (h : n < ds.length) {S : List O} : idxD (.lst ds) (.int (n : Nat)) S = .ok ds[n] S := by
  show (match atI ds (n : Int) with
    | some d => R.ok d S
    | none => .bad) = _
  rw [at_nat h]
/-- one of a list -/
theorem idx_mem {n : Nat} (ds : List D) (h : n < ds.length) : ∃ d ∈ ds, ∀ S, idxD (.lst ds) (.int (n : Nat)) S = .ok d S := ⟨_, List.getElem_mem h, fun _ => idx_nat h⟩
/-- a loop's body, a choice's sides -/
def S.body : Ev.S → Ss
  | .fr _ _ b => b
  | .wh _ b => b
  | .ife _ a _ => a
  | .tri b _ => b
  | _ => .nil
def S.els : Ev.S → Ss
  | .ife _ _ b => b
  | _ => .nil
/-! ### own instances -/
theorem gcR_ins {S : List O} {C : Nat} {fs : List Nat} {ds : List D} (h : clL S.length ds = true) : gcR S (.ok (.ref S.length) (S ++ [.ins C fs ds])) = .ok (.ins C fs ds) S := by
  refine gcR_keep ?_
  show frzN S.length (S ++ [.ins C fs ds]) 6 S.length = _
  unfold frzN
  rw [if_neg (by omega)]
  have : (S ++ [O.ins C fs ds])[S.length]? = some (.ins C fs ds) := by simp
  rw [this]
  show (frzL _ ds).map _ = _
  rw [frz_idL (fun m hm => frzN_old 5 m hm) ds h]
  rfl
theorem setF_top {t : Ct} {S : List O} {C : Nat} {fs : List Nat} {vs : List D} {f : Nat} {d : D} (h : t.fld C f = true) (hl : fs.length < 1000) : setF t (.ref S.length) f d (S ++ [.ins C fs vs]) = .ok () (S ++ [.ins C (putD fs vs f d).1 (putD fs vs f d).2]) := by
  unfold setF
  simp [h, hl]
/-- __init__ has set fields -/
theorem gcR_init {S : List O} {o p : O} {d : D} (hd : clD (S.length + 1) d = true) (hp : clO (S.length + 1) p = true) : gcR (S ++ [o]) (.ok d (S ++ [p])) = .ok d (S ++ [p]) := by
  have := gcR_one (S := S ++ [o]) (T := []) (n := S.length) (o := p) (d := d) (by simpa using hd) (by simpa using hp) (by simp)
  simpa using this
theorem foldl_cnt {α : Type} (xs : List α) : ∀ z : Nat, xs.foldl (fun z _ => z + 1) z = z + xs.length := by
  induction xs with
  | nil => intro z; rfl
  | cons x xs ih => intro z; rw [List.foldl_cons, ih]; simp; omega
theorem idx_rg {n p : Nat} {f : Nat → D} {S : List O} (h : p < n) : idxD (.lst ((List.range n).map f)) (.int (p : Nat)) S = .ok (f p) S := by
  show (match atI ((List.range n).map f) (p : Int) with
    | some d => R.ok d S
    | none => .bad) = _
  rw [at_nat (by simpa using h)]
  simp
theorem map_rg {α β : Type} (f : α → β) (xs : List α) (d : α) : xs.map f = (List.range xs.length).map fun s => f (xs.getD s d) := by
  refine List.ext_getElem (by simp) fun i h1 h2 => ?_
  simp at h1
  simp [List.getD_eq_getElem?_getD, h1]
/-- a comprehension, its value being r: what is left of the items -/
theorem lc_resM {α : Type} {S : List O} {g : D → List O → R (Option D)} {its : List D} {r : R D} (hr : gcR S (lcE [] g its S) = r) {xs : List α} (e : α → D) (f : α → Option D) (hi : its = xs.map e) (h : ∀ x ∈ xs, ∀ T, g (e x) T = .ok (f x) T) (hz : xs.length ≤ 10000) (hn : ∀ x ∈ xs, ∀ d, f x = some d → nrD d = true) : r = .ok (.lst (xs.filterMap f)) S := by
  subst hr hi
  exact lc_fm e f h hz hn
/-! ### a list that is walked: a value, or stored -/
def SrcL (S : List O) (d : D) (ds : List D) : Prop := ∃ gd, (∀ T, srcOf (S ++ T) d = some ⟨ds, gd⟩) ∧ ∀ T, gdOk (S ++ T) gd
theorem SrcL.lst {S : List O} {ds : List D} : SrcL S (.lst ds) ds := ⟨[], fun _ => rfl, fun _ => trivial⟩
theorem SrcL.ref {S : List O} {n : Nat} {ds : List D} (h : S[n]? = some (.lst ds)) : SrcL S (.ref n) ds :=
  ⟨[(n, ds)], fun T => srcOf_ref (low_get h), fun T => by
    show (match (S ++ T)[n]? with
      | some (.lst es) => es = ds
      | _ => False) ∧ True
    rw [low_get h]
    exact ⟨rfl, trivial⟩⟩
theorem SrcL.app {S T : List O} {d : D} {ds : List D} (h : SrcL S d ds) : SrcL (S ++ T) d ds := by
  obtain ⟨gd, h1, h2⟩ := h
  exact ⟨gd, fun U => by rw [List.append_assoc]; exact h1 _, fun U => by rw [List.append_assoc]; exact h2 _⟩
theorem lc_resG {α : Type} {S : List O} {gd : List (Nat × List D)} {g : D → List O → R (Option D)} {its : List D} {r : R D} (hr : gcR S (lcE gd g its S) = r) {xs : List α} (e : α → D) (f : α → D) (hi : its = xs.map e) (hg : ∀ T, gdOk (S ++ T) gd) (h : ∀ x ∈ xs, ∀ T, g (e x) T = .ok (some (f x)) T) (hz : xs.length ≤ 10000) (hn : ∀ x ∈ xs, nrD (f x) = true) : r = .ok (.lst (xs.map f)) S := by
  subst hr hi
  unfold lcE
  rw [lc_goG e (fun x => some (f x)) (fun acc => hg _) (fun x hx acc => h x hx _) (by simp [szl]; omega)]
  simp only [lcR_ok, List.nil_append, List.filterMap_eq_map']
  refine gcR_lst (nr_clL _ (nrL_all fun d hd => ?_))
  obtain ⟨x, hx, rfl⟩ := List.mem_map.mp hd
  exact hn x hx
theorem range_at {n i : Nat} {ys zs : List Nat} (h : List.range n = ys ++ i :: zs) : i = ys.length ∧ i < n := by
  have h1 : (List.range n)[ys.length]? = some i := by rw [h, List.getElem?_append_right (Nat.le_refl _)]; simp
  obtain ⟨h2, h3⟩ := List.getElem?_eq_some_iff.mp h1
  simp at h2 h3
  omega
theorem idx_last {ds : List D} {d : D} {S : List O} {n : Nat} (h : S[n]? = some (.lst (ds ++ [d]))) : idxD (.ref n) (.int (-1)) S = .ok d S := by
  have h1 : atI (ds ++ [d]) (-1) = some d := by
    have : ixN (ds ++ [d]).length (-1) = some ds.length := by
      unfold ixN
      simp
      omega
    unfold atI
    rw [this]
    simp
  simp [idxD, seqOf, rdL, listOf, h, h1]
theorem in_lstI {neg : Bool} {ps : List Nat} {p : Nat} {S : List O} : inDS neg (.int (p : Nat)) (.lst (ps.map fun p => .int (p : Nat))) S = .ok (.bl (neg != decide (p ∈ ps))) S := by
  have := in_tupI (neg := neg) (ps := ps) (p := (p : Nat)) (S := S)
  have e : inDS neg (.int (p : Nat)) (.lst (ps.map fun p => .int (p : Nat))) S = inDS neg (.int (p : Nat)) (tupI ps) S := rfl
  rw [e, this]
  simp
/-! ### texts in order -/
theorem leD_str (a b : List Nat) : leD (.str a) (.str b) = !decide (b < a) := by
  show (!lexLt itemOrd [Sum.inr (mkS b).cps.toList] [Sum.inr (mkS a).cps.toList]) = _
  rw [lex_cons]
  show (!(decide ((mkS b).cps.toList < (mkS a).cps.toList) || (!decide ((mkS a).cps.toList < (mkS b).cps.toList) && false))) = _
  simp
theorem srt_strs {xs : List (List Nat)} (h : ∀ x ∈ xs, asc x) : srtB (xs.map D.str) = true := by
  refine srt_of (fun d hd => ?_) (fun d hd e he => ?_) (.inr (.inl fun d hd => ?_))
  · obtain ⟨p, hp, rfl⟩ := List.mem_map.mp hd; exact sh_str (h p hp)
  · obtain ⟨p, _, rfl⟩ := List.mem_map.mp hd
    obtain ⟨q, _, rfl⟩ := List.mem_map.mp he
    rfl
  · obtain ⟨p, _, rfl⟩ := List.mem_map.mp hd; rfl
theorem sort_asc {xs : List (List Nat)} (h : xs.Pairwise (· < ·)) : (xs.mergeSort fun a b => leD (.str a) (.str b)) = xs := by
  refine (PySem.W.sort_unique (le := fun a b => leD (.str a) (.str b)) ⟨fun a b c h1 h2 => leD_total.trans (.str a) (.str b) (.str c) h1 h2, fun a b => leD_total.total (.str a) (.str b)⟩ (l := xs) (m := xs) ?_ fun _ => rfl).symm
  refine h.imp fun {a b} hab => ?_
  rw [leD_str]
  simp only [Bool.not_eq_true', decide_eq_false_iff_not]
  exact fun hba => List.lt_irrefl a (List.lt_trans hab hba)
theorem in_strs {neg : Bool} {a : List Nat} {xs : List (List Nat)} {S : List O} (ha : asc a) (h : ∀ x ∈ xs, asc x) : inDS neg (.str a) (.lst (xs.map D.str)) S = .ok (.bl (neg != decide (a ∈ xs))) S := by
  have h1 : shD (.str a) = true := sh_str ha
  have h2 : shD (.tup (xs.map D.str)) = true := by
    obtain ⟨p, q⟩ := scl_okL (xs.map D.str) fun d hd => by
      obtain ⟨x, hx, rfl⟩ := List.mem_map.mp hd
      exact List.all_eq_true.mpr fun c hc => decide_eq_true (h x hx c hc)
    show (okL (xs.map D.str) && decide ((PyData.tuple (pyL (xs.map D.str))).depth ≤ 60)) = true
    rw [p]
    simp [PyData.depth, q]
  have e : ((xs.map D.str).any fun z => eqD z (.str a)) = decide (a ∈ xs) := by
    rw [Bool.eq_iff_iff, List.any_eq_true]
    constructor
    · rintro ⟨z, hz, hq⟩
      obtain ⟨x, hx, rfl⟩ := List.mem_map.mp hz
      rw [eq_str] at hq
      have : x = a := by simpa using hq
      subst this
      exact decide_eq_true hx
    · intro hq
      exact ⟨.str a, List.mem_map.mpr ⟨a, of_decide_eq_true hq, rfl⟩, by simp⟩
  show (if (shD (.str a) && shD (.tup (xs.map D.str))) = true then R.ok (D.bl (neg != (xs.map D.str).any fun z => eqD z (.str a))) S else .bad) = _
  rw [h1, h2, e]; rfl
/-- == of lists, tuples of texts -/
theorem eqL_strs : ∀ a b : List (List Nat), eqL (a.map D.str) (b.map D.str) = decide (a = b)
  | [], [] => rfl
  | [], _ :: _ => rfl
  | _ :: _, [] => rfl
  | x :: a, y :: b => by
    rw [List.map_cons, List.map_cons, eqL_cc, eqL_strs a b, eq_str, Bool.eq_iff_iff]
    simp
theorem scl_strs {xs : List (List Nat)} (h : ∀ x ∈ xs, asc x) : ∀ d ∈ xs.map D.str, sclD d = true := fun d hd => by
  obtain ⟨x, hx, rfl⟩ := List.mem_map.mp hd
  exact List.all_eq_true.mpr fun c hc => decide_eq_true (h x hx c hc)
theorem cutL_take {α : Type} {xs : List α} {p : Nat} (h : p ≤ xs.length) : cutL xs none (some (p : Int)) = xs.take p := cut_take h
/-! ### lexicographic order of rows of one length -/
theorem lt_append : ∀ {a b : List Nat} {x y : List Nat}, a.length = b.length → a < b → a ++ x < b ++ y
  | [], [], _, _, _, h => absurd h (List.lt_irrefl _)
  | c :: a, d :: b, x, y, hl, h => by
    rw [List.cons_append, List.cons_append]
    rcases List.cons_lt_cons_iff.mp h with h2 | ⟨h3, h2⟩
    · exact List.cons_lt_cons_iff.mpr (.inl h2)
    · exact List.cons_lt_cons_iff.mpr (.inr ⟨h3, lt_append (by simpa using hl) h2⟩)
  | [], _ :: _, _, _, hl, _ => by simp at hl
  | _ :: _, [], _, _, hl, _ => by simp at hl
theorem lt_same : ∀ (a : List Nat) {x y : List Nat}, x < y → a ++ x < a ++ y
  | [], _, _, h => h
  | c :: a, x, y, h => by
    rw [List.cons_append, List.cons_append]
    exact List.cons_lt_cons_iff.mpr (.inr ⟨rfl, lt_same a h⟩)
end Ev
end
section
set_option Elab.async false
set_option linter.all false
set_option maxRecDepth 100000
set_option maxHeartbeats 4000000
set_option autoImplicit false
/-! the tables of the law, printed by gen.py -/
namespace LK78
open PySem PySem.Spec PyProof.Rows L2 Ev
def top (i : Nat) : Stmt := PySem.Challenge.pw_likeslips_k78_whole_rows_of_machines.main.body.getD i (.Pass ⟨0, 0, 0, 0⟩)
abbrev F_is_integer : Nat := 0
abbrev F_is_row : Nat := 1
abbrev F_is_ascending : Nat := 2
abbrev F_is_move : Nat := 3
abbrev F_check_length : Nat := 4
abbrev F_ways_left : Nat := 5
abbrev F_many_of : Nat := 6
abbrev F_rows_of : Nat := 7
abbrev F_live_list : Nat := 8
abbrev F_live_before : Nat := 9
abbrev F_lot_of : Nat := 10
abbrev F_l_hand : Nat := 11
abbrev F_l_draw : Nat := 12
abbrev F_l_rows_of : Nat := 13
abbrev F_l_added : Nat := 14
abbrev F_l_bits_machine : Nat := 15
abbrev F_l_ring_machine : Nat := 16
abbrev F_l_machine : Nat := 17
abbrev F_l_told : Nat := 18
abbrev F_l_ways : Nat := 19
abbrev F_l_from : Nat := 20
abbrev F_law : Nat := 21
abbrev F_Lot___init__ : Nat := 22
abbrev F_Lot___eq__ : Nat := 23
abbrev F_Machine___init__ : Nat := 24
abbrev F_Machine___eq__ : Nat := 25
abbrev C_SlipError : Nat := 0
abbrev C_BadLot : Nat := 1
abbrev C_TooMany : Nat := 2
abbrev C_BadMachine : Nat := 3
abbrev C_BadLength : Nat := 4
abbrev C_Lot : Nat := 5
abbrev C_Machine : Nat := 6
abbrev G_SIGNS : Nat := 0
abbrev G_MOST_ROWS : Nat := 1
abbrev G_MOST_PLACES : Nat := 2
abbrev G_MOST_STATES : Nat := 3
abbrev G_MOST_COUNTED : Nat := 4
abbrev A___init__ : Nat := 0
abbrev A___eq__ : Nat := 1
abbrev A_moves : Nat := 2
abbrev A_ends : Nat := 3
abbrev A_limit : Nat := 4
abbrev A_rows : Nat := 5
abbrev A_known : Nat := 6
abbrev A_places : Nat := 7
abbrev A_index : Nat := 8
abbrev A_part : Nat := 9
abbrev A_length : Nat := 10
/-- 0: is_integer(0 thing) -/
def b_is_integer : Ss := (.cons (.ret (.and (.isi (.var 0) [.int]) (.nt (.isi (.var 0) [.bool])))) .nil)
/-- 1: is_row(0 thing, 1 sign) -/
def b_is_row : Ss := (.cons (.ret (.and (.isi (.var 0) [.str]) (.bi .all (.cons (.frz (.lc (.cmp .In (.var 1) (.glb G_SIGNS)) (.nm 1) (.of (.var 0)) (.no) [1])) .nil)))) .nil)
/-- 2: is_ascending(0 thing, 1 many, 2 one, 3 other, 4 item) -/
def b_is_ascending : Ss := (.cons (.ife (.or (.nt (.isi (.var 0) [.tuple])) (.nt (.bi .all (.cons (.frz (.lc (.and (.call F_is_integer (.cons (.var 4) .nil)) (.chain .LtE .Lt (.int 0) (.var 4) (.var 1))) (.nm 4) (.of (.var 0)) (.no) [4])) .nil)))) (.cons (.ret (.bl false)) .nil) .nil) (.cons (.ret (.bi .all (.cons (.frz (.lc (.cmp .Lt (.var 2) (.var 3)) (.tup (.cons (.nm 2) (.cons (.nm 3) .nil))) (.zip (.var 0) (.slc (.var 0) (.yes (.int 1)) (.no))) (.no) [2, 3])) .nil))) .nil))
/-- 3: is_move(0 thing, 1 many, 2 item) -/
def b_is_move : Ss := (.cons (.ife (.or (.nt (.isi (.var 0) [.tuple])) (.cmp .NotEq (.bi .len (.cons (.var 0) .nil)) (.int 2))) (.cons (.ret (.bl false)) .nil) .nil) (.cons (.ret (.bi .all (.cons (.frz (.lc (.and (.call F_is_integer (.cons (.var 2) .nil)) (.chain .LtE .Lt (.int 0) (.var 2) (.var 1))) (.nm 2) (.of (.var 0)) (.no) [2])) .nil))) .nil))
/-- 4: check_length(0 length, 1 least, 2 most) -/
def b_check_length : Ss := (.cons (.ife (.or (.nt (.call F_is_integer (.cons (.var 0) .nil))) (.nt (.chain .LtE .LtE (.var 1) (.var 0) (.var 2)))) (.cons (.rse C_BadLength (.cons (.var 0) .nil)) .nil) .nil) (.cons (.ret (.var 0)) .nil))
/-- 5: ways_left(0 machine, 1 length, 2 found, 3 step, 4 state, 5 zero, 6 one) -/
def b_ways_left : Ss := (.cons (.asg (.nm 2) (.frz (.lc (.bi .int (.cons (.cmp .In (.var 4) (.attr (.var 0) A_ends)) .nil)) (.nm 4) (.rng (.bi .len (.cons (.attr (.var 0) A_moves) .nil))) (.no) [4]))) (.cons (.fr (.nm 3) (.rng (.var 1)) (.cons (.asg (.nm 2) (.frz (.lc (.bin .Add (.idx (.var 2) (.var 5)) (.idx (.var 2) (.var 6))) (.tup (.cons (.nm 5) (.cons (.nm 6) .nil))) (.of (.attr (.var 0) A_moves)) (.no) [5, 6]))) .nil)) (.cons (.ret (.var 2)) .nil)))
/-- 6: many_of(0 machine, 1 length) -/
def b_many_of : Ss := (.cons (.ret (.idx (.call F_ways_left (.cons (.var 0) (.cons (.call F_check_length (.cons (.var 1) (.cons (.int 0) (.cons (.glb G_MOST_COUNTED) .nil)))) .nil))) (.int 0))) .nil)
/-- 7: rows_of(0 machine, 1 length, 2 lives, 3 found, 4 step, 5 later, 6 row, 7 state, 8 sign, 9 there) -/
def b_rows_of : Ss := (.cons (.asg (.nm 2) (.call F_live_list (.cons (.var 0) (.cons (.var 1) .nil)))) (.cons (.asg (.nm 3) (.ite (.cmp .In (.int 0) (.idx (.var 2) (.var 1))) (.flst (.cons (.tup (.cons (.str []) (.cons (.int 0) .nil))) .nil)) (.flst .nil))) (.cons (.fr (.nm 4) (.rng (.var 1)) (.cons (.asg (.nm 5) (.lst .nil)) (.cons (.fr (.tup (.cons (.nm 6) (.cons (.nm 7) .nil))) (.of (.var 3)) (.cons (.fr (.tup (.cons (.nm 8) (.cons (.nm 9) .nil))) (.zip (.glb G_SIGNS) (.idx (.attr (.var 0) A_moves) (.var 7))) (.cons (.ife (.cmp .In (.var 9) (.idx (.var 2) (.bin .Sub (.bin .Sub (.var 1) (.var 4)) (.int 1)))) (.cons (.exp (.meth .append (.var 5) (.cons (.tup (.cons (.bin .Add (.var 6) (.var 8)) (.cons (.var 9) .nil))) .nil))) .nil) .nil) .nil)) .nil)) (.cons (.asg (.nm 3) (.var 5)) .nil)))) (.cons (.ret (.frz (.lc (.var 6) (.tup (.cons (.nm 6) (.cons (.nm 7) .nil))) (.of (.var 3)) (.no) [6, 7]))) .nil))))
/-- 8: live_list(0 machine, 1 length, 2 found, 3 step) -/
def b_live_list : Ss := (.cons (.asg (.nm 2) (.lst (.cons (.bi .list (.cons (.attr (.var 0) A_ends) .nil)) .nil))) (.cons (.fr (.nm 3) (.rng (.var 1)) (.cons (.exp (.meth .append (.var 2) (.cons (.call F_live_before (.cons (.var 0) (.cons (.idx (.var 2) (.neg (.int 1))) .nil))) .nil))) .nil)) (.cons (.ret (.var 2)) .nil)))
/-- 9: live_before(0 machine, 1 lives, 2 state, 3 zero, 4 one) -/
def b_live_before : Ss := (.cons (.ret (.frz (.lc (.var 2) (.tup (.cons (.nm 2) (.cons (.tup (.cons (.nm 3) (.cons (.nm 4) .nil))) .nil))) (.enm (.attr (.var 0) A_moves)) (.yes (.or (.cmp .In (.var 3) (.var 1)) (.cmp .In (.var 4) (.var 1)))) [2, 3, 4]))) .nil)
/-- 10: lot_of(0 machine, 1 length, 2 many) -/
def b_lot_of : Ss := (.cons (.exp (.call F_check_length (.cons (.var 1) (.cons (.int 1) (.cons (.glb G_MOST_PLACES) .nil))))) (.cons (.asg (.nm 2) (.call F_many_of (.cons (.var 0) (.cons (.var 1) .nil)))) (.cons (.ife (.cmp .Gt (.var 2) (.glb G_MOST_ROWS)) (.cons (.rse C_TooMany (.cons (.glb G_MOST_ROWS) .nil)) .nil) .nil) (.cons (.ret (.ite (.cmp .Eq (.var 2) (.int 0)) (.non) (.frz (.make C_Lot (.cons (.call F_rows_of (.cons (.var 0) (.cons (.var 1) .nil))) .nil))))) .nil))))
/-- 11: _law_hand(0 _law_script, 1 _law_cells, 2 _law_cell) -/
def b_l_hand : Ss := (.cons (.asgL true 1 (.bi .abs (.cons (.bi .int (.cons (.var 2) .nil)) .nil)) (.nm 2) (.of (.slc (.var 0) (.no) (.yes (.int 63)))) (.no) [2]) (.cons (.ret (.lst (.cons (.var 1) (.cons (.int 0) (.cons (.int 0) (.cons (.bin .Add (.int 1) (.bi .len (.cons (.var 1) .nil))) (.cons (.int 0) .nil))))))) .nil))
/-- 12: _law_draw(0 _law_hand_here, 1 _law_many, 2 _law_number, 3 _law_cell, 4 _law_digit) -/
def b_l_draw : Ss := (.cons (.ife (.and (.cmp .Eq (.idx (.var 0) (.int 2)) (.int 0)) (.cmp .Lt (.idx (.var 0) (.int 1)) (.bi .len (.cons (.idx (.var 0) (.int 0)) .nil)))) (.cons (.asg (.nm 3) (.idx (.idx (.var 0) (.int 0)) (.idx (.var 0) (.int 1)))) (.cons (.asgI (.var 0) (.int 1) (.bin .Add (.idx (.var 0) (.int 1)) (.int 1))) (.cons (.asgI (.var 0) (.int 3) (.bin .Mod (.bi .int (.cons (.bin .Add (.bin .Add (.bin .Mult (.idx (.var 0) (.int 3)) (.int 69621)) (.var 3)) (.int 11)) .nil)) (.int 2147483629))) (.cons (.ife (.cmp .GtE (.var 3) (.bin .Pow (.int 10) (.int 18))) (.cons (.asgI (.var 0) (.int 2) (.var 3)) .nil) .nil) .nil)))) .nil) (.cons (.ife (.cmp .Gt (.idx (.var 0) (.int 2)) (.int 0)) (.cons (.asg (.nm 4) (.bin .Mod (.bi .int (.cons (.idx (.var 0) (.int 2)) .nil)) (.var 1))) (.cons (.asgI (.var 0) (.int 2) (.bin .FloorDiv (.idx (.var 0) (.int 2)) (.var 1))) (.cons (.ret (.var 4)) .nil))) .nil) (.cons (.asgI (.var 0) (.int 4) (.bin .Add (.idx (.var 0) (.int 4)) (.int 1))) (.cons (.asg (.nm 2) (.bin .Mod (.bi .int (.cons (.bin .Mult (.bi .int (.cons (.bin .Add (.idx (.var 0) (.int 3)) (.bin .Mult (.int 7919) (.idx (.var 0) (.int 4)))) .nil)) (.int 48271)) .nil)) (.int 2147483647))) (.cons (.asg (.nm 2) (.bin .Mod (.bi .int (.cons (.bin .Mult (.var 2) (.bin .Add (.bin .FloorDiv (.var 2) (.int 1009)) (.int 69621))) .nil)) (.int 2147483647))) (.cons (.asg (.nm 2) (.bin .Mod (.bi .int (.cons (.bin .Mult (.var 2) (.bin .Add (.bin .FloorDiv (.var 2) (.int 2003)) (.int 40692))) .nil)) (.int 2147483399))) (.cons (.ret (.bin .Mod (.bi .int (.cons (.bin .FloorDiv (.var 2) (.int 16)) .nil)) (.var 1))) .nil)))))))
/-- 13: _law_rows_of(0 _law_moves, 1 _law_ends, 2 _law_length, 3 _law_found, 4 _law_step, 5 _law_later, 6 _law_row, 7 _law_state, 8 _law_sign) -/
def b_l_rows_of : Ss := (.cons (.asg (.nm 3) (.flst (.cons (.tup (.cons (.str []) (.cons (.int 0) .nil))) .nil))) (.cons (.fr (.nm 4) (.rng (.var 2)) (.cons (.asg (.nm 5) (.lst .nil)) (.cons (.fr (.tup (.cons (.nm 6) (.cons (.nm 7) .nil))) (.of (.var 3)) (.cons (.exp (.meth .extend (.var 5) (.cons (.frz (.lc (.tup (.cons (.bin .Add (.var 6) (.var 8)) (.cons (.idx (.idx (.var 0) (.var 7)) (.bi .int (.cons (.var 8) .nil))) .nil))) (.nm 8) (.of (.str [48, 49])) (.no) [8])) .nil))) .nil)) (.cons (.asg (.nm 3) (.var 5)) .nil)))) (.cons (.ret (.frz (.lc (.var 6) (.tup (.cons (.nm 6) (.cons (.nm 7) .nil))) (.of (.var 3)) (.yes (.cmp .In (.var 7) (.var 1))) [6, 7]))) .nil)))
/-- 14: _law_added(0 _law_one, 1 _law_other, 2 _law_found, 3 _law_bit) -/
def b_l_added : Ss := (.cons (.asg (.nm 2) (.int 0)) (.cons (.fr (.nm 3) (.of (.tup (.cons (.int 1) (.cons (.int 2) (.cons (.int 4) .nil))))) (.cons (.ife (.cmp .NotEq (.bin .Mod (.bi .int (.cons (.bin .FloorDiv (.var 0) (.var 3)) .nil)) (.int 2)) (.bin .Mod (.bi .int (.cons (.bin .FloorDiv (.var 1) (.var 3)) .nil)) (.int 2))) (.cons (.asg (.nm 2) (.bin .Add (.var 2) (.var 3))) .nil) .nil) .nil)) (.cons (.ret (.var 2)) .nil)))
/-- 15: _law_bits_machine(0 _law_hand_here, 1 _law_bits, 2 _law_many, 3 _law_images, 4 _law_steps, 5 _law_moves, 6 _law_state, 7 _law_ends, 8 _law_turn, 9 _law_base, 10 _law_bit, 11 _law_step, 12 _law_more) -/
def b_l_bits_machine : Ss := (.cons (.asg (.nm 1) (.bin .Add (.int 1) (.call F_l_draw (.cons (.var 0) (.cons (.int 3) .nil))))) (.cons (.asg (.nm 2) (.idx (.flst (.cons (.int 2) (.cons (.int 4) (.cons (.int 8) .nil)))) (.bin .Sub (.var 1) (.int 1)))) (.cons (.asgL true 3 (.call F_l_draw (.cons (.var 0) (.cons (.var 2) .nil))) (.nm 10) (.rng (.var 1)) (.no) [10]) (.cons (.asg (.nm 4) (.flst (.cons (.call F_l_draw (.cons (.var 0) (.cons (.var 2) .nil))) (.cons (.call F_l_draw (.cons (.var 0) (.cons (.var 2) .nil))) .nil)))) (.cons (.asg (.nm 5) (.lst .nil)) (.cons (.fr (.nm 6) (.rng (.var 2)) (.cons (.asg (.nm 9) (.int 0)) (.cons (.fr (.nm 10) (.rng (.var 1)) (.cons (.ife (.cmp .Eq (.bin .Mod (.bi .int (.cons (.bin .FloorDiv (.var 6) (.idx (.flst (.cons (.int 1) (.cons (.int 2) (.cons (.int 4) .nil)))) (.var 10))) .nil)) (.int 2)) (.int 1)) (.cons (.asg (.nm 9) (.call F_l_added (.cons (.var 9) (.cons (.idx (.var 3) (.var 10)) .nil)))) .nil) .nil) .nil)) (.cons (.exp (.meth .append (.var 5) (.cons (.tup (.cons (.call F_l_added (.cons (.var 9) (.cons (.idx (.var 4) (.int 0)) .nil))) (.cons (.call F_l_added (.cons (.var 9) (.cons (.idx (.var 4) (.int 1)) .nil))) .nil))) .nil))) .nil)))) (.cons (.asg (.nm 7) (.flst (.cons (.call F_l_draw (.cons (.var 0) (.cons (.var 2) .nil))) .nil))) (.cons (.fr (.nm 8) (.rng (.call F_l_draw (.cons (.var 0) (.cons (.bin .Add (.var 1) (.int 1)) .nil)))) (.cons (.asg (.nm 11) (.call F_l_draw (.cons (.var 0) (.cons (.var 2) .nil)))) (.cons (.asgL true 12 (.call F_l_added (.cons (.var 6) (.cons (.var 11) .nil))) (.nm 6) (.of (.var 7)) (.no) [6]) (.cons (.ife (.cmp .NotIn (.idx (.var 12) (.int 0)) (.var 7)) (.cons (.asg (.nm 7) (.bin .Add (.var 7) (.var 12))) .nil) .nil) .nil)))) (.cons (.ret (.tup (.cons (.bi .tuple (.cons (.var 5) .nil)) (.cons (.bi .tuple (.cons (.bi .sorted (.cons (.var 7) .nil)) .nil)) .nil)))) .nil)))))))))
/-- 16: _law_ring_machine(0 _law_hand_here, 1 _law_many, 2 _law_begin, 3 _law_moves, 4 _law_state, 5 _law_ends, 6 _law_later) -/
def b_l_ring_machine : Ss := (.cons (.asg (.nm 1) (.bin .Add (.int 1) (.call F_l_draw (.cons (.var 0) (.cons (.int 7) .nil))))) (.cons (.asg (.nm 2) (.call F_l_draw (.cons (.var 0) (.cons (.var 1) .nil)))) (.cons (.asg (.nm 3) (.lst .nil)) (.cons (.fr (.nm 4) (.rng (.var 1)) (.cons (.asg (.nm 6) (.bin .Add (.var 4) (.int 1))) (.cons (.ife (.cmp .Eq (.var 6) (.var 1)) (.cons (.asg (.nm 6) (.var 2)) .nil) .nil) (.cons (.exp (.meth .append (.var 3) (.cons (.idx (.flst (.cons (.tup (.cons (.var 6) (.cons (.var 6) .nil))) (.cons (.tup (.cons (.var 6) (.cons (.var 6) .nil))) (.cons (.tup (.cons (.var 6) (.cons (.var 1) .nil))) (.cons (.tup (.cons (.var 1) (.cons (.var 6) .nil))) .nil))))) (.call F_l_draw (.cons (.var 0) (.cons (.int 4) .nil)))) .nil))) .nil)))) (.cons (.exp (.meth .append (.var 3) (.cons (.tup (.cons (.var 1) (.cons (.var 1) .nil))) .nil))) (.cons (.asgL true 5 (.var 4) (.nm 4) (.rng (.var 1)) (.yes (.cmp .Eq (.call F_l_draw (.cons (.var 0) (.cons (.int 2) .nil))) (.int 0))) [4]) (.cons (.ret (.tup (.cons (.bi .tuple (.cons (.var 3) .nil)) (.cons (.bi .tuple (.cons (.var 5) .nil)) .nil)))) .nil)))))))
/-- 17: _law_machine(0 _law_hand_here, 1 _law_most, 2 _law_kind, 3 _law_moves, 4 _law_ends, 5 _law_many, 6 _law_at, 7 _law_state) -/
def b_l_machine : Ss := (.cons (.asg (.nm 2) (.call F_l_draw (.cons (.var 0) (.cons (.int 6) .nil)))) (.cons (.asg (.tup (.cons (.nm 3) (.cons (.nm 4) .nil))) (.call F_l_bits_machine (.cons (.var 0) .nil))) (.cons (.ife (.cmp .In (.var 2) (.tup (.cons (.int 2) (.cons (.int 3) .nil)))) (.cons (.asg (.tup (.cons (.nm 3) (.cons (.nm 4) .nil))) (.call F_l_ring_machine (.cons (.var 0) .nil))) .nil) .nil) (.cons (.ife (.cmp .Gt (.var 2) (.int 3)) (.cons (.asg (.nm 5) (.bin .Add (.int 1) (.call F_l_draw (.cons (.var 0) (.cons (.var 1) .nil))))) (.cons (.asg (.nm 3) (.bi .tuple (.cons (.frz (.lc (.tup (.cons (.call F_l_draw (.cons (.var 0) (.cons (.var 5) .nil))) (.cons (.call F_l_draw (.cons (.var 0) (.cons (.var 5) .nil))) .nil))) (.nm 7) (.rng (.var 5)) (.no) [7])) .nil))) (.cons (.asg (.nm 4) (.bi .tuple (.cons (.frz (.lc (.var 7) (.nm 7) (.rng (.var 5)) (.yes (.cmp .Eq (.call F_l_draw (.cons (.var 0) (.cons (.int 2) .nil))) (.int 0))) [7])) .nil))) .nil))) .nil) (.cons (.ife (.and (.cmp .In (.var 2) (.tup (.cons (.int 1) (.cons (.int 3) .nil)))) (.cmp .LtE (.bi .len (.cons (.var 3) .nil)) (.var 1))) (.cons (.asg (.nm 6) (.call F_l_draw (.cons (.var 0) (.cons (.bi .len (.cons (.var 3) .nil)) .nil)))) (.cons (.asg (.nm 3) (.bin .Add (.bin .Add (.slc (.var 3) (.no) (.yes (.var 6))) (.tup (.cons (.tup (.cons (.call F_l_draw (.cons (.var 0) (.cons (.bi .len (.cons (.var 3) .nil)) .nil))) (.cons (.idx (.idx (.var 3) (.var 6)) (.int 1)) .nil))) .nil))) (.slc (.var 3) (.yes (.bin .Add (.var 6) (.int 1))) (.no)))) .nil)) .nil) (.cons (.ret (.tup (.cons (.var 3) (.cons (.var 4) .nil)))) .nil))))))
/-- 18: _law_told(0 _law_machine_here, 1 _law_length, 2 _law_word, 3 e) -/
def b_l_told : Ss := (.cons (.asg (.nm 2) (.non)) (.cons (.tri (.cons (.asg (.nm 2) (.call F_lot_of (.cons (.var 0) (.cons (.var 1) .nil)))) .nil) (.cons (.own C_TooMany) (some 3) (.cons (.asg (.nm 2) (.tup (.cons (.str [109, 97, 110, 121]) (.cons (.xf A_limit) .nil)))) .nil) .nil)) (.cons (.ret (.var 2)) .nil)))
/-- 19: _law_ways(0 _law_moves, 1 _law_length, 2 _law_found, 3 _law_step, 4 _law_later, 5 _law_state, 6 _law_there) -/
def b_l_ways : Ss := (.cons (.asg (.nm 2) (.bin .Add (.flst (.cons (.int 1) .nil)) (.mulL false (.flst (.cons (.int 0) .nil)) (.bin .Sub (.bi .len (.cons (.var 0) .nil)) (.int 1))))) (.cons (.fr (.nm 3) (.rng (.var 1)) (.cons (.asg (.nm 4) (.mulL true (.flst (.cons (.int 0) .nil)) (.bi .len (.cons (.var 0) .nil)))) (.cons (.fr (.nm 5) (.rng (.bi .len (.cons (.var 0) .nil))) (.cons (.fr (.nm 6) (.of (.idx (.var 0) (.var 5))) (.cons (.asgI (.var 4) (.var 6) (.bin .Add (.idx (.var 4) (.var 6)) (.idx (.var 2) (.var 5)))) .nil)) .nil)) (.cons (.asg (.nm 2) (.var 4)) .nil)))) (.cons (.ret (.var 2)) .nil)))
/-- 20: _law_from(0 _law_moves, 1 _law_ends, 2 _law_state, 3 _law_names, 4 _law_found, 5 _law_new, 6 _law_zero, 7 _law_one, 8 _law_end) -/
def b_l_from : Ss := (.cons (.asg (.nm 3) (.lrng 1 (.bi .len (.cons (.var 0) .nil)))) (.cons (.asgI (.var 3) (.int 0) (.var 2)) (.cons (.asgI (.var 3) (.var 2) (.int 0)) (.cons (.asg (.nm 4) (.lst .nil)) (.cons (.fr (.nm 5) (.rng (.bi .len (.cons (.var 0) .nil))) (.cons (.asg (.tup (.cons (.nm 6) (.cons (.nm 7) .nil))) (.idx (.var 0) (.idx (.var 3) (.var 5)))) (.cons (.exp (.meth .append (.var 4) (.cons (.tup (.cons (.idx (.var 3) (.var 6)) (.cons (.idx (.var 3) (.var 7)) .nil))) .nil))) .nil))) (.cons (.ret (.frz (.make C_Machine (.cons (.bi .tuple (.cons (.var 4) .nil)) (.cons (.bi .tuple (.cons (.bi .sorted (.cons (.frz (.lc (.idx (.var 3) (.var 8)) (.nm 8) (.of (.var 1)) (.no) [8])) .nil)) .nil)) .nil))))) .nil))))))
/-- 21: law(0 _law_script, 1 _law_hand_here, 2 _law_machine_here, 3 _law_length, 4 _law_ways_here, 5 _law_first, 6 _law_total, 7 _law_state, 8 _law_moves, 9 _law_ends, 10 _law_rows, 11 _law_told_here, 12 _law_lot, 13 _law_end) -/
def b_law : Ss := (.cons (.asg (.nm 1) (.call F_l_hand (.cons (.var 0) .nil))) (.cons (.asg (.tup (.cons (.nm 8) (.cons (.nm 9) .nil))) (.call F_l_machine (.cons (.var 1) (.cons (.int 8) .nil)))) (.cons (.asg (.nm 2) (.frz (.make C_Machine (.cons (.var 8) (.cons (.var 9) .nil))))) (.cons (.fr (.nm 3) (.rng (.int 9)) (.cons (.asg (.nm 10) (.call F_l_rows_of (.cons (.var 8) (.cons (.var 9) (.cons (.var 3) .nil))))) (.cons (.asg (.nm 11) (.call F_many_of (.cons (.var 2) (.cons (.var 3) .nil)))) (.cons (.ife (.or (.nt (.isi (.var 11) [.int])) (.or (.isi (.var 11) [.bool]) (.cmp .NotEq (.var 11) (.bi .len (.cons (.var 10) .nil))))) (.cons (.ret (.bl false)) .nil) .nil) (.cons (.ife (.cmp .Gt (.var 3) (.int 0)) (.cons (.asg (.nm 12) (.call F_l_told (.cons (.var 2) (.cons (.var 3) .nil)))) (.cons (.ife (.and (.cmp .Eq (.bi .len (.cons (.var 10) .nil)) (.int 0)) (.cmp .IsNot (.var 12) (.non))) (.cons (.ret (.bl false)) .nil) .nil) (.cons (.ife (.and (.cmp .Gt (.bi .len (.cons (.var 10) .nil)) (.int 64)) (.cmp .NotEq (.var 12) (.tup (.cons (.str [109, 97, 110, 121]) (.cons (.int 64) .nil))))) (.cons (.ret (.bl false)) .nil) .nil) (.cons (.ife (.and (.chain .Lt .LtE (.int 0) (.bi .len (.cons (.var 10) .nil)) (.int 64)) (.or (.oeq A___eq__ (.var 12) (.non)) (.or (.nt (.oeq A___eq__ (.var 12) (.frz (.make C_Lot (.cons (.var 10) .nil))))) (.cmp .NotEq (.attr (.var 12) A_rows) (.bi .tuple (.cons (.var 10) .nil)))))) (.cons (.ret (.bl false)) .nil) .nil) .nil)))) .nil) .nil))))) (.cons (.asg (.nm 3) (.call F_l_draw (.cons (.var 1) (.cons (.int 201) .nil)))) (.cons (.asg (.nm 4) (.call F_l_ways (.cons (.var 8) (.cons (.var 3) .nil)))) (.cons (.ife (.cmp .NotEq (.call F_many_of (.cons (.var 2) (.cons (.var 3) .nil))) (.bi .sum (.cons (.frz (.lc (.idx (.var 4) (.var 13)) (.nm 13) (.of (.var 9)) (.no) [13])) .nil))) (.cons (.ret (.bl false)) .nil) .nil) (.cons (.asg (.nm 5) (.call F_l_draw (.cons (.var 1) (.cons (.bin .Add (.var 3) (.int 1)) .nil)))) (.cons (.asg (.nm 4) (.call F_l_ways (.cons (.var 8) (.cons (.var 5) .nil)))) (.cons (.asg (.nm 6) (.int 0)) (.cons (.fr (.nm 7) (.rng (.bi .len (.cons (.var 8) .nil))) (.cons (.asg (.nm 6) (.bin .Add (.var 6) (.bin .Mult (.idx (.var 4) (.var 7)) (.call F_many_of (.cons (.call F_l_from (.cons (.var 8) (.cons (.var 9) (.cons (.var 7) .nil)))) (.cons (.bin .Sub (.var 3) (.var 5)) .nil)))))) .nil)) (.cons (.ret (.cmp .Eq (.var 6) (.call F_many_of (.cons (.var 2) (.cons (.var 3) .nil))))) .nil))))))))))))
/-- 22: Lot.__init__(0 self, 1 rows, 2 index, 3 row) -/
def b_Lot___init__ : Ss := (.cons (.ife (.or (.nt (.isi (.var 1) [.list, .tuple])) (.nt (.chain .LtE .LtE (.int 1) (.bi .len (.cons (.var 1) .nil)) (.glb G_MOST_ROWS)))) (.cons (.rse C_BadLot (.cons (.neg (.int 1)) .nil)) .nil) .nil) (.cons (.fr (.tup (.cons (.nm 2) (.cons (.nm 3) .nil))) (.enm (.var 1)) (.cons (.ife (.or (.nt (.call F_is_row (.cons (.var 3) .nil))) (.or (.nt (.chain .LtE .LtE (.int 1) (.bi .len (.cons (.var 3) .nil)) (.glb G_MOST_PLACES))) (.or (.cmp .NotEq (.bi .len (.cons (.var 3) .nil)) (.bi .len (.cons (.idx (.var 1) (.int 0)) .nil))) (.cmp .In (.var 3) (.slc (.var 1) (.no) (.yes (.var 2))))))) (.cons (.rse C_BadLot (.cons (.var 2) .nil)) .nil) .nil) .nil)) (.cons (.asgF (.var 0) A_rows (.bi .tuple (.cons (.bi .sorted (.cons (.var 1) .nil)) .nil))) (.cons (.asgF (.var 0) A_places (.bi .len (.cons (.idx (.var 1) (.int 0)) .nil))) (.cons (.asgF (.var 0) A_known (.femp false)) .nil)))))
/-- 23: Lot.__eq__(0 self, 1 other) -/
def b_Lot___eq__ : Ss := (.cons (.ret (.and (.isi (.var 1) [(.own C_Lot)]) (.cmp .Eq (.attr (.var 0) A_rows) (.attr (.var 1) A_rows)))) .nil)
/-- 24: Machine.__init__(0 self, 1 moves, 2 ends, 3 item) -/
def b_Machine___init__ : Ss := (.cons (.ife (.or (.nt (.isi (.var 1) [.tuple])) (.nt (.chain .LtE .LtE (.int 1) (.bi .len (.cons (.var 1) .nil)) (.glb G_MOST_STATES)))) (.cons (.rse C_BadMachine (.cons (.str [109, 111, 118, 101, 115]) .nil)) .nil) .nil) (.cons (.ife (.nt (.bi .all (.cons (.frz (.lc (.call F_is_move (.cons (.var 3) (.cons (.bi .len (.cons (.var 1) .nil)) .nil))) (.nm 3) (.of (.var 1)) (.no) [3])) .nil))) (.cons (.rse C_BadMachine (.cons (.str [109, 111, 118, 101, 115]) .nil)) .nil) .nil) (.cons (.ife (.nt (.call F_is_ascending (.cons (.var 2) (.cons (.bi .len (.cons (.var 1) .nil)) .nil)))) (.cons (.rse C_BadMachine (.cons (.str [101, 110, 100, 115]) .nil)) .nil) .nil) (.cons (.asgF (.var 0) A_moves (.var 1)) (.cons (.asgF (.var 0) A_ends (.var 2)) .nil)))))
/-- 25: Machine.__eq__(0 self, 1 other) -/
def b_Machine___eq__ : Ss := (.cons (.ret (.and (.isi (.var 1) [(.own C_Machine)]) (.and (.cmp .Eq (.attr (.var 0) A_moves) (.attr (.var 1) A_moves)) (.cmp .Eq (.attr (.var 0) A_ends) (.attr (.var 1) A_ends))))) .nil)
def tb : Tb := { fn := ((["is_integer", "is_row", "is_ascending", "is_move", "check_length", "ways_left", "many_of", "rows_of", "live_list", "live_before", "lot_of", "_law_hand", "_law_draw", "_law_rows_of", "_law_added", "_law_bits_machine", "_law_ring_machine", "_law_machine", "_law_told", "_law_ways"] : List PySem.Str) ++ (["_law_from", "law"] : List PySem.Str)), gl := ["SIGNS", "MOST_ROWS", "MOST_PLACES", "MOST_STATES", "MOST_COUNTED"], cl := ["SlipError", "BadLot", "TooMany", "BadMachine", "BadLength", "Lot", "Machine"], an := ["__init__", "__eq__", "moves", "ends", "limit", "rows", "known", "places", "index", "part", "length"] }
def dfs : List Df := [⟨1, 1, false, b_is_integer⟩, ⟨1, 2, false, b_is_row⟩, ⟨2, 5, false, b_is_ascending⟩, ⟨2, 3, false, b_is_move⟩, ⟨3, 3, false, b_check_length⟩, ⟨2, 7, false, b_ways_left⟩, ⟨2, 2, false, b_many_of⟩, ⟨2, 10, false, b_rows_of⟩, ⟨2, 4, false, b_live_list⟩, ⟨2, 5, false, b_live_before⟩, ⟨2, 3, false, b_lot_of⟩, ⟨1, 3, true, b_l_hand⟩, ⟨2, 5, false, b_l_draw⟩, ⟨3, 9, false, b_l_rows_of⟩, ⟨2, 4, false, b_l_added⟩, ⟨1, 13, false, b_l_bits_machine⟩, ⟨1, 7, false, b_l_ring_machine⟩, ⟨2, 8, false, b_l_machine⟩, ⟨2, 4, false, b_l_told⟩, ⟨2, 7, false, b_l_ways⟩, ⟨3, 9, false, b_l_from⟩, ⟨1, 14, false, b_law⟩, ⟨2, 4, false, b_Lot___init__⟩, ⟨2, 2, false, b_Lot___eq__⟩, ⟨3, 4, false, b_Machine___init__⟩, ⟨2, 2, false, b_Machine___eq__⟩]
def tl : Tl where
  tb := tb
  gv := [.ft [.str [48], .str [49]], .int 64, .int 10, .int 8, .int 200]
  sub := [(0, 0), (1, 1), (1, 0), (2, 2), (2, 0), (3, 3), (3, 0), (4, 4), (4, 0), (5, 5), (6, 6)]
  val := [0, 1, 2, 3, 4]
  icl := [5, 6]
  exc := [0, 1, 2, 3, 4]
  fld := [(5, 5), (5, 6), (5, 7), (6, 2), (6, 3)]
  mth := [(5, 1, 23), (6, 1, 25)]
  ini := [(5, 22), (6, 24)]
  xin := [⟨1, 8, "self", "index"⟩, ⟨2, 4, "self", "limit"⟩, ⟨3, 9, "self", "part"⟩, ⟨4, 10, "self", "length"⟩]
  defs := dfs
theorem an_nd : tl.tb.an.Nodup := by decide +kernel
theorem ok_is_integer : okSs tb tl.ct b_is_integer { N := ["thing"], sc := defScope (top 10), fn := fun _ => true, cm := true, hv := none } (defBody (top 10)) = true := by decide +kernel
theorem ok_is_row : okSs tb tl.ct b_is_row { N := ["thing", "sign"], sc := defScope (top 11), fn := fun _ => true, cm := true, hv := none } (defBody (top 11)) = true := by decide +kernel
theorem ok_is_ascending : okSs tb tl.ct b_is_ascending { N := ["thing", "many", "one", "other", "item"], sc := defScope (top 14), fn := fun _ => true, cm := true, hv := none } (defBody (top 14)) = true := by decide +kernel
theorem ok_is_move : okSs tb tl.ct b_is_move { N := ["thing", "many", "item"], sc := defScope (top 18), fn := fun _ => true, cm := true, hv := none } (defBody (top 18)) = true := by decide +kernel
theorem ok_check_length : okSs tb tl.ct b_check_length { N := ["length", "least", "most"], sc := defScope (top 20), fn := fun _ => true, cm := true, hv := none } (defBody (top 20)) = true := by decide +kernel
theorem ok_ways_left : okSs tb tl.ct b_ways_left { N := ["machine", "length", "found", "step", "state", "zero", "one"], sc := defScope (top 21), fn := fun _ => true, cm := true, hv := none } (defBody (top 21)) = true := by decide +kernel
theorem ok_many_of : okSs tb tl.ct b_many_of { N := ["machine", "length"], sc := defScope (top 22), fn := fun _ => true, cm := true, hv := none } (defBody (top 22)) = true := by decide +kernel
theorem ok_rows_of : okSs tb tl.ct b_rows_of { N := ["machine", "length", "lives", "found", "step", "later", "row", "state", "sign", "there"], sc := defScope (top 23), fn := fun _ => true, cm := true, hv := none } (defBody (top 23)) = true := by decide +kernel
theorem ok_live_list : okSs tb tl.ct b_live_list { N := ["machine", "length", "found", "step"], sc := defScope (top 24), fn := fun _ => true, cm := true, hv := none } (defBody (top 24)) = true := by decide +kernel
theorem ok_live_before : okSs tb tl.ct b_live_before { N := ["machine", "lives", "state", "zero", "one"], sc := defScope (top 25), fn := fun _ => true, cm := true, hv := none } (defBody (top 25)) = true := by decide +kernel
theorem ok_lot_of : okSs tb tl.ct b_lot_of { N := ["machine", "length", "many"], sc := defScope (top 26), fn := fun _ => true, cm := true, hv := none } (defBody (top 26)) = true := by decide +kernel
theorem ok_l_hand : okSs tb tl.ct b_l_hand { N := ["_law_script", "_law_cells", "_law_cell"], sc := defScope (top 28), fn := fun _ => true, cm := true, hv := none } (defBody (top 28)) = true := by decide +kernel
theorem ok_l_draw : okSs tb tl.ct b_l_draw { N := ["_law_hand_here", "_law_many", "_law_number", "_law_cell", "_law_digit"], sc := defScope (top 29), fn := fun _ => true, cm := true, hv := none } (defBody (top 29)) = true := by decide +kernel
theorem ok_l_rows_of : okSs tb tl.ct b_l_rows_of { N := ["_law_moves", "_law_ends", "_law_length", "_law_found", "_law_step", "_law_later", "_law_row", "_law_state", "_law_sign"], sc := defScope (top 30), fn := fun _ => true, cm := true, hv := none } (defBody (top 30)) = true := by decide +kernel
theorem ok_l_added : okSs tb tl.ct b_l_added { N := ["_law_one", "_law_other", "_law_found", "_law_bit"], sc := defScope (top 31), fn := fun _ => true, cm := true, hv := none } (defBody (top 31)) = true := by decide +kernel
theorem ok_l_bits_machine : okSs tb tl.ct b_l_bits_machine { N := ["_law_hand_here", "_law_bits", "_law_many", "_law_images", "_law_steps", "_law_moves", "_law_state", "_law_ends", "_law_turn", "_law_base", "_law_bit", "_law_step", "_law_more"], sc := defScope (top 32), fn := fun _ => true, cm := true, hv := none } (defBody (top 32)) = true := by decide +kernel
theorem ok_l_ring_machine : okSs tb tl.ct b_l_ring_machine { N := ["_law_hand_here", "_law_many", "_law_begin", "_law_moves", "_law_state", "_law_ends", "_law_later"], sc := defScope (top 33), fn := fun _ => true, cm := true, hv := none } (defBody (top 33)) = true := by decide +kernel
theorem ok_l_machine : okSs tb tl.ct b_l_machine { N := ["_law_hand_here", "_law_most", "_law_kind", "_law_moves", "_law_ends", "_law_many", "_law_at", "_law_state"], sc := defScope (top 34), fn := fun _ => true, cm := true, hv := none } (defBody (top 34)) = true := by decide +kernel
theorem ok_l_told : okSs tb tl.ct b_l_told { N := ["_law_machine_here", "_law_length", "_law_word", "e"], sc := defScope (top 35), fn := fun _ => true, cm := true, hv := none } (defBody (top 35)) = true := by decide +kernel
theorem ok_l_ways : okSs tb tl.ct b_l_ways { N := ["_law_moves", "_law_length", "_law_found", "_law_step", "_law_later", "_law_state", "_law_there"], sc := defScope (top 36), fn := fun _ => true, cm := true, hv := none } (defBody (top 36)) = true := by decide +kernel
theorem ok_l_from : okSs tb tl.ct b_l_from { N := ["_law_moves", "_law_ends", "_law_state", "_law_names", "_law_found", "_law_new", "_law_zero", "_law_one", "_law_end"], sc := defScope (top 37), fn := fun _ => true, cm := true, hv := none } (defBody (top 37)) = true := by decide +kernel
theorem ok_law : okSs tb tl.ct b_law { N := ["_law_script", "_law_hand_here", "_law_machine_here", "_law_length", "_law_ways_here", "_law_first", "_law_total", "_law_state", "_law_moves", "_law_ends", "_law_rows", "_law_told_here", "_law_lot", "_law_end"], sc := defScope (top 38), fn := fun _ => true, cm := true, hv := none } (defBody (top 38)) = true := by decide +kernel
theorem ok_Lot___init__ : okSs tb tl.ct b_Lot___init__ { N := ["self", "rows", "index", "row"], sc := defScope (inClass (top 12) 0), fn := fun _ => true, cm := true, hv := none } (defBody (inClass (top 12) 0)) = true := by decide +kernel
theorem ok_Lot___eq__ : okSs tb tl.ct b_Lot___eq__ { N := ["self", "other"], sc := defScope (inClass (top 12) 1), fn := fun _ => true, cm := true, hv := none } (defBody (inClass (top 12) 1)) = true := by decide +kernel
theorem ok_Machine___init__ : okSs tb tl.ct b_Machine___init__ { N := ["self", "moves", "ends", "item"], sc := defScope (inClass (top 19) 0), fn := fun _ => true, cm := true, hv := none } (defBody (inClass (top 19) 0)) = true := by decide +kernel
theorem ok_Machine___eq__ : okSs tb tl.ct b_Machine___eq__ { N := ["self", "other"], sc := defScope (inClass (top 19) 1), fn := fun _ => true, cm := true, hv := none } (defBody (inClass (top 19) 1)) = true := by decide +kernel
@[simp] theorem g_SIGNS : tl.ct.glb G_SIGNS = .ft [.str [48], .str [49]] := rfl
@[simp] theorem g_MOST_ROWS : tl.ct.glb G_MOST_ROWS = .int 64 := rfl
@[simp] theorem g_MOST_PLACES : tl.ct.glb G_MOST_PLACES = .int 10 := rfl
@[simp] theorem g_MOST_STATES : tl.ct.glb G_MOST_STATES = .int 8 := rfl
@[simp] theorem g_MOST_COUNTED : tl.ct.glb G_MOST_COUNTED = .int 200 := rfl
theorem run_is_integer {k : Nat} {x0 : D} {S : List O} : callD tl.ct (k + 1) F_is_integer [x0] S = gcR S (fin (evSs tl.ct (callD tl.ct k) b_is_integer none [some x0] S)) := call_gc (np := 1) (nn := 1) rfl rfl
theorem run_is_row {k : Nat} {x0 : D} {S : List O} : callD tl.ct (k + 1) F_is_row [x0] S = gcR S (fin (evSs tl.ct (callD tl.ct k) b_is_row none [some x0, none] S)) := call_gc (np := 1) (nn := 2) rfl rfl
theorem run_is_ascending {k : Nat} {x0 x1 : D} {S : List O} : callD tl.ct (k + 1) F_is_ascending [x0, x1] S = gcR S (fin (evSs tl.ct (callD tl.ct k) b_is_ascending none [some x0, some x1, none, none, none] S)) := call_gc (np := 2) (nn := 5) rfl rfl
theorem run_is_move {k : Nat} {x0 x1 : D} {S : List O} : callD tl.ct (k + 1) F_is_move [x0, x1] S = gcR S (fin (evSs tl.ct (callD tl.ct k) b_is_move none [some x0, some x1, none] S)) := call_gc (np := 2) (nn := 3) rfl rfl
theorem run_check_length {k : Nat} {x0 x1 x2 : D} {S : List O} : callD tl.ct (k + 1) F_check_length [x0, x1, x2] S = gcR S (fin (evSs tl.ct (callD tl.ct k) b_check_length none [some x0, some x1, some x2] S)) := call_gc (np := 3) (nn := 3) rfl rfl
theorem run_ways_left {k : Nat} {x0 x1 : D} {S : List O} : callD tl.ct (k + 1) F_ways_left [x0, x1] S = gcR S (fin (evSs tl.ct (callD tl.ct k) b_ways_left none [some x0, some x1, none, none, none, none, none] S)) := call_gc (np := 2) (nn := 7) rfl rfl
theorem run_many_of {k : Nat} {x0 x1 : D} {S : List O} : callD tl.ct (k + 1) F_many_of [x0, x1] S = gcR S (fin (evSs tl.ct (callD tl.ct k) b_many_of none [some x0, some x1] S)) := call_gc (np := 2) (nn := 2) rfl rfl
theorem run_rows_of {k : Nat} {x0 x1 : D} {S : List O} : callD tl.ct (k + 1) F_rows_of [x0, x1] S = gcR S (fin (evSs tl.ct (callD tl.ct k) b_rows_of none [some x0, some x1, none, none, none, none, none, none, none, none] S)) := call_gc (np := 2) (nn := 10) rfl rfl
theorem run_live_list {k : Nat} {x0 x1 : D} {S : List O} : callD tl.ct (k + 1) F_live_list [x0, x1] S = gcR S (fin (evSs tl.ct (callD tl.ct k) b_live_list none [some x0, some x1, none, none] S)) := call_gc (np := 2) (nn := 4) rfl rfl
theorem run_live_before {k : Nat} {x0 x1 : D} {S : List O} : callD tl.ct (k + 1) F_live_before [x0, x1] S = gcR S (fin (evSs tl.ct (callD tl.ct k) b_live_before none [some x0, some x1, none, none, none] S)) := call_gc (np := 2) (nn := 5) rfl rfl
theorem run_lot_of {k : Nat} {x0 x1 : D} {S : List O} : callD tl.ct (k + 1) F_lot_of [x0, x1] S = gcR S (fin (evSs tl.ct (callD tl.ct k) b_lot_of none [some x0, some x1, none] S)) := call_gc (np := 2) (nn := 3) rfl rfl
theorem run_l_hand {k : Nat} {x0 : D} {S : List O} : callD tl.ct (k + 1) F_l_hand [x0] S = fin (evSs tl.ct (callD tl.ct k) b_l_hand none [some x0, none, none] S) := call_raw (np := 1) (nn := 3) rfl rfl
theorem run_l_draw {k : Nat} {x0 x1 : D} {S : List O} : callD tl.ct (k + 1) F_l_draw [x0, x1] S = gcR S (fin (evSs tl.ct (callD tl.ct k) b_l_draw none [some x0, some x1, none, none, none] S)) := call_gc (np := 2) (nn := 5) rfl rfl
theorem run_l_rows_of {k : Nat} {x0 x1 x2 : D} {S : List O} : callD tl.ct (k + 1) F_l_rows_of [x0, x1, x2] S = gcR S (fin (evSs tl.ct (callD tl.ct k) b_l_rows_of none [some x0, some x1, some x2, none, none, none, none, none, none] S)) := call_gc (np := 3) (nn := 9) rfl rfl
theorem run_l_added {k : Nat} {x0 x1 : D} {S : List O} : callD tl.ct (k + 1) F_l_added [x0, x1] S = gcR S (fin (evSs tl.ct (callD tl.ct k) b_l_added none [some x0, some x1, none, none] S)) := call_gc (np := 2) (nn := 4) rfl rfl
theorem run_l_bits_machine {k : Nat} {x0 : D} {S : List O} : callD tl.ct (k + 1) F_l_bits_machine [x0] S = gcR S (fin (evSs tl.ct (callD tl.ct k) b_l_bits_machine none [some x0, none, none, none, none, none, none, none, none, none, none, none, none] S)) := call_gc (np := 1) (nn := 13) rfl rfl
theorem run_l_ring_machine {k : Nat} {x0 : D} {S : List O} : callD tl.ct (k + 1) F_l_ring_machine [x0] S = gcR S (fin (evSs tl.ct (callD tl.ct k) b_l_ring_machine none [some x0, none, none, none, none, none, none] S)) := call_gc (np := 1) (nn := 7) rfl rfl
theorem run_l_machine {k : Nat} {x0 x1 : D} {S : List O} : callD tl.ct (k + 1) F_l_machine [x0, x1] S = gcR S (fin (evSs tl.ct (callD tl.ct k) b_l_machine none [some x0, some x1, none, none, none, none, none, none] S)) := call_gc (np := 2) (nn := 8) rfl rfl
theorem run_l_told {k : Nat} {x0 x1 : D} {S : List O} : callD tl.ct (k + 1) F_l_told [x0, x1] S = gcR S (fin (evSs tl.ct (callD tl.ct k) b_l_told none [some x0, some x1, none, none] S)) := call_gc (np := 2) (nn := 4) rfl rfl
theorem run_l_ways {k : Nat} {x0 x1 : D} {S : List O} : callD tl.ct (k + 1) F_l_ways [x0, x1] S = gcR S (fin (evSs tl.ct (callD tl.ct k) b_l_ways none [some x0, some x1, none, none, none, none, none] S)) := call_gc (np := 2) (nn := 7) rfl rfl
theorem run_l_from {k : Nat} {x0 x1 x2 : D} {S : List O} : callD tl.ct (k + 1) F_l_from [x0, x1, x2] S = gcR S (fin (evSs tl.ct (callD tl.ct k) b_l_from none [some x0, some x1, some x2, none, none, none, none, none, none] S)) := call_gc (np := 3) (nn := 9) rfl rfl
theorem run_law {k : Nat} {x0 : D} {S : List O} : callD tl.ct (k + 1) F_law [x0] S = gcR S (fin (evSs tl.ct (callD tl.ct k) b_law none [some x0, none, none, none, none, none, none, none, none, none, none, none, none, none] S)) := call_gc (np := 1) (nn := 14) rfl rfl
theorem run_Lot___init__ {k : Nat} {x0 x1 : D} {S : List O} : callD tl.ct (k + 1) F_Lot___init__ [x0, x1] S = gcR S (fin (evSs tl.ct (callD tl.ct k) b_Lot___init__ none [some x0, some x1, none, none] S)) := call_gc (np := 2) (nn := 4) rfl rfl
theorem run_Lot___eq__ {k : Nat} {x0 x1 : D} {S : List O} : callD tl.ct (k + 1) F_Lot___eq__ [x0, x1] S = gcR S (fin (evSs tl.ct (callD tl.ct k) b_Lot___eq__ none [some x0, some x1] S)) := call_gc (np := 2) (nn := 2) rfl rfl
theorem run_Machine___init__ {k : Nat} {x0 x1 x2 : D} {S : List O} : callD tl.ct (k + 1) F_Machine___init__ [x0, x1, x2] S = gcR S (fin (evSs tl.ct (callD tl.ct k) b_Machine___init__ none [some x0, some x1, some x2, none] S)) := call_gc (np := 3) (nn := 4) rfl rfl
theorem run_Machine___eq__ {k : Nat} {x0 x1 : D} {S : List O} : callD tl.ct (k + 1) F_Machine___eq__ [x0, x1] S = gcR S (fin (evSs tl.ct (callD tl.ct k) b_Machine___eq__ none [some x0, some x1] S)) := call_gc (np := 2) (nn := 2) rfl rfl
theorem mk_Lot {C : Orc} {ds : List D} {S : List O} : mkRun tl.ct C C_Lot ds S = (C F_Lot___init__ (.ref S.length :: ds) (S ++ [.ins C_Lot [] []])).bind (mkEnd S.length) := mk_run rfl
theorem mk_Machine {C : Orc} {ds : List D} {S : List O} : mkRun tl.ct C C_Machine ds S = (C F_Machine___init__ (.ref S.length :: ds) (S ++ [.ins C_Machine [] []])).bind (mkEnd S.length) := mk_run rfl
@[simp] theorem xfs_SlipError : tl.ct.xfs C_SlipError = [] := rfl
@[simp] theorem xis_SlipError_TooMany {fs : List Nat} {vs : List D} : xisB tl.ct ⟨C_SlipError, fs, vs⟩ (.own C_TooMany) = some false := rfl
@[simp] theorem xis_SlipError_value {fs : List Nat} {vs : List D} : xisB tl.ct ⟨C_SlipError, fs, vs⟩ .value = some true := rfl
@[simp] theorem xfs_BadLot : tl.ct.xfs C_BadLot = [A_index] := rfl
@[simp] theorem xis_BadLot_TooMany {fs : List Nat} {vs : List D} : xisB tl.ct ⟨C_BadLot, fs, vs⟩ (.own C_TooMany) = some false := rfl
@[simp] theorem xis_BadLot_value {fs : List Nat} {vs : List D} : xisB tl.ct ⟨C_BadLot, fs, vs⟩ .value = some true := rfl
@[simp] theorem xfs_TooMany : tl.ct.xfs C_TooMany = [A_limit] := rfl
@[simp] theorem xis_TooMany_TooMany {fs : List Nat} {vs : List D} : xisB tl.ct ⟨C_TooMany, fs, vs⟩ (.own C_TooMany) = some true := rfl
@[simp] theorem xis_TooMany_value {fs : List Nat} {vs : List D} : xisB tl.ct ⟨C_TooMany, fs, vs⟩ .value = some true := rfl
@[simp] theorem xfs_BadMachine : tl.ct.xfs C_BadMachine = [A_part] := rfl
@[simp] theorem xis_BadMachine_TooMany {fs : List Nat} {vs : List D} : xisB tl.ct ⟨C_BadMachine, fs, vs⟩ (.own C_TooMany) = some false := rfl
@[simp] theorem xis_BadMachine_value {fs : List Nat} {vs : List D} : xisB tl.ct ⟨C_BadMachine, fs, vs⟩ .value = some true := rfl
@[simp] theorem xfs_BadLength : tl.ct.xfs C_BadLength = [A_length] := rfl
@[simp] theorem xis_BadLength_TooMany {fs : List Nat} {vs : List D} : xisB tl.ct ⟨C_BadLength, fs, vs⟩ (.own C_TooMany) = some false := rfl
@[simp] theorem xis_BadLength_value {fs : List Nat} {vs : List D} : xisB tl.ct ⟨C_BadLength, fs, vs⟩ .value = some true := rfl
end LK78
end
section
set_option Elab.async false
set_option linter.all false
set_option maxRecDepth 100000
set_option maxHeartbeats 0
set_option autoImplicit false
namespace LK78
open PySem PySem.Spec PyProof.Rows L2 Ev
def d0 : He.DefD := ⟨("is_integer", none), "is_integer", "is_integer", defArgs (top 10), defBody (top 10), defScope (top 10), [], []⟩
theorem sc0 : FnScope ["thing"] ["thing"] (defScope (top 10)) := ⟨rfl, rfl, rfl, by decide +kernel, rfl, by decide +kernel, by decide +kernel⟩
def d1 : He.DefD := ⟨("is_row", none), "is_row", "is_row", defArgs (top 11), defBody (top 11), defScope (top 11), [], []⟩
theorem sc1 : FnScope ["thing", "sign"] ["thing"] (defScope (top 11)) := ⟨rfl, rfl, rfl, by decide +kernel, rfl, by decide +kernel, by decide +kernel⟩
def d2 : He.DefD := ⟨("is_ascending", none), "is_ascending", "is_ascending", defArgs (top 14), defBody (top 14), defScope (top 14), [], []⟩
theorem sc2 : FnScope ["thing", "many", "one", "other", "item"] ["thing", "many"] (defScope (top 14)) := ⟨rfl, rfl, rfl, by decide +kernel, rfl, by decide +kernel, by decide +kernel⟩
def d3 : He.DefD := ⟨("is_move", none), "is_move", "is_move", defArgs (top 18), defBody (top 18), defScope (top 18), [], []⟩
theorem sc3 : FnScope ["thing", "many", "item"] ["thing", "many"] (defScope (top 18)) := ⟨rfl, rfl, rfl, by decide +kernel, rfl, by decide +kernel, by decide +kernel⟩
def d4 : He.DefD := ⟨("check_length", none), "check_length", "check_length", defArgs (top 20), defBody (top 20), defScope (top 20), [], []⟩
theorem sc4 : FnScope ["length", "least", "most"] ["length", "least", "most"] (defScope (top 20)) := ⟨rfl, rfl, rfl, by decide +kernel, rfl, by decide +kernel, by decide +kernel⟩
def d5 : He.DefD := ⟨("ways_left", none), "ways_left", "ways_left", defArgs (top 21), defBody (top 21), defScope (top 21), [], []⟩
theorem sc5 : FnScope ["machine", "length", "found", "step", "state", "zero", "one"] ["machine", "length"] (defScope (top 21)) := ⟨rfl, rfl, rfl, by decide +kernel, rfl, by decide +kernel, by decide +kernel⟩
def d6 : He.DefD := ⟨("many_of", none), "many_of", "many_of", defArgs (top 22), defBody (top 22), defScope (top 22), [], []⟩
theorem sc6 : FnScope ["machine", "length"] ["machine", "length"] (defScope (top 22)) := ⟨rfl, rfl, rfl, by decide +kernel, rfl, by decide +kernel, by decide +kernel⟩
def d7 : He.DefD := ⟨("rows_of", none), "rows_of", "rows_of", defArgs (top 23), defBody (top 23), defScope (top 23), [], []⟩
theorem sc7 : FnScope ["machine", "length", "lives", "found", "step", "later", "row", "state", "sign", "there"] ["machine", "length"] (defScope (top 23)) := ⟨rfl, rfl, rfl, by decide +kernel, rfl, by decide +kernel, by decide +kernel⟩
def d8 : He.DefD := ⟨("live_list", none), "live_list", "live_list", defArgs (top 24), defBody (top 24), defScope (top 24), [], []⟩
theorem sc8 : FnScope ["machine", "length", "found", "step"] ["machine", "length"] (defScope (top 24)) := ⟨rfl, rfl, rfl, by decide +kernel, rfl, by decide +kernel, by decide +kernel⟩
def d9 : He.DefD := ⟨("live_before", none), "live_before", "live_before", defArgs (top 25), defBody (top 25), defScope (top 25), [], []⟩
theorem sc9 : FnScope ["machine", "lives", "state", "zero", "one"] ["machine", "lives"] (defScope (top 25)) := ⟨rfl, rfl, rfl, by decide +kernel, rfl, by decide +kernel, by decide +kernel⟩
def d10 : He.DefD := ⟨("lot_of", none), "lot_of", "lot_of", defArgs (top 26), defBody (top 26), defScope (top 26), [], []⟩
theorem sc10 : FnScope ["machine", "length", "many"] ["machine", "length"] (defScope (top 26)) := ⟨rfl, rfl, rfl, by decide +kernel, rfl, by decide +kernel, by decide +kernel⟩
def d11 : He.DefD := ⟨("_law_hand", none), "_law_hand", "_law_hand", defArgs (top 28), defBody (top 28), defScope (top 28), [], []⟩
theorem sc11 : FnScope ["_law_script", "_law_cells", "_law_cell"] ["_law_script"] (defScope (top 28)) := ⟨rfl, rfl, rfl, by decide +kernel, rfl, by decide +kernel, by decide +kernel⟩
def d12 : He.DefD := ⟨("_law_draw", none), "_law_draw", "_law_draw", defArgs (top 29), defBody (top 29), defScope (top 29), [], []⟩
theorem sc12 : FnScope ["_law_hand_here", "_law_many", "_law_number", "_law_cell", "_law_digit"] ["_law_hand_here", "_law_many"] (defScope (top 29)) := ⟨rfl, rfl, rfl, by decide +kernel, rfl, by decide +kernel, by decide +kernel⟩
def d13 : He.DefD := ⟨("_law_rows_of", none), "_law_rows_of", "_law_rows_of", defArgs (top 30), defBody (top 30), defScope (top 30), [], []⟩
theorem sc13 : FnScope ["_law_moves", "_law_ends", "_law_length", "_law_found", "_law_step", "_law_later", "_law_row", "_law_state", "_law_sign"] ["_law_moves", "_law_ends", "_law_length"] (defScope (top 30)) := ⟨rfl, rfl, rfl, by decide +kernel, rfl, by decide +kernel, by decide +kernel⟩
def d14 : He.DefD := ⟨("_law_added", none), "_law_added", "_law_added", defArgs (top 31), defBody (top 31), defScope (top 31), [], []⟩
theorem sc14 : FnScope ["_law_one", "_law_other", "_law_found", "_law_bit"] ["_law_one", "_law_other"] (defScope (top 31)) := ⟨rfl, rfl, rfl, by decide +kernel, rfl, by decide +kernel, by decide +kernel⟩
def d15 : He.DefD := ⟨("_law_bits_machine", none), "_law_bits_machine", "_law_bits_machine", defArgs (top 32), defBody (top 32), defScope (top 32), [], []⟩
theorem sc15 : FnScope ["_law_hand_here", "_law_bits", "_law_many", "_law_images", "_law_steps", "_law_moves", "_law_state", "_law_ends", "_law_turn", "_law_base", "_law_bit", "_law_step", "_law_more"] ["_law_hand_here"] (defScope (top 32)) := ⟨rfl, rfl, rfl, by decide +kernel, rfl, by decide +kernel, by decide +kernel⟩
def d16 : He.DefD := ⟨("_law_ring_machine", none), "_law_ring_machine", "_law_ring_machine", defArgs (top 33), defBody (top 33), defScope (top 33), [], []⟩
theorem sc16 : FnScope ["_law_hand_here", "_law_many", "_law_begin", "_law_moves", "_law_state", "_law_ends", "_law_later"] ["_law_hand_here"] (defScope (top 33)) := ⟨rfl, rfl, rfl, by decide +kernel, rfl, by decide +kernel, by decide +kernel⟩
def d17 : He.DefD := ⟨("_law_machine", none), "_law_machine", "_law_machine", defArgs (top 34), defBody (top 34), defScope (top 34), [], []⟩
theorem sc17 : FnScope ["_law_hand_here", "_law_most", "_law_kind", "_law_moves", "_law_ends", "_law_many", "_law_at", "_law_state"] ["_law_hand_here", "_law_most"] (defScope (top 34)) := ⟨rfl, rfl, rfl, by decide +kernel, rfl, by decide +kernel, by decide +kernel⟩
def d18 : He.DefD := ⟨("_law_told", none), "_law_told", "_law_told", defArgs (top 35), defBody (top 35), defScope (top 35), [], []⟩
theorem sc18 : FnScope ["_law_machine_here", "_law_length", "_law_word", "e"] ["_law_machine_here", "_law_length"] (defScope (top 35)) := ⟨rfl, rfl, rfl, by decide +kernel, rfl, by decide +kernel, by decide +kernel⟩
def d19 : He.DefD := ⟨("_law_ways", none), "_law_ways", "_law_ways", defArgs (top 36), defBody (top 36), defScope (top 36), [], []⟩
theorem sc19 : FnScope ["_law_moves", "_law_length", "_law_found", "_law_step", "_law_later", "_law_state", "_law_there"] ["_law_moves", "_law_length"] (defScope (top 36)) := ⟨rfl, rfl, rfl, by decide +kernel, rfl, by decide +kernel, by decide +kernel⟩
def d20 : He.DefD := ⟨("_law_from", none), "_law_from", "_law_from", defArgs (top 37), defBody (top 37), defScope (top 37), [], []⟩
theorem sc20 : FnScope ["_law_moves", "_law_ends", "_law_state", "_law_names", "_law_found", "_law_new", "_law_zero", "_law_one", "_law_end"] ["_law_moves", "_law_ends", "_law_state"] (defScope (top 37)) := ⟨rfl, rfl, rfl, by decide +kernel, rfl, by decide +kernel, by decide +kernel⟩
def d21 : He.DefD := ⟨("law", none), "law", "law", defArgs (top 38), defBody (top 38), defScope (top 38), [], []⟩
theorem sc21 : FnScope ["_law_script", "_law_hand_here", "_law_machine_here", "_law_length", "_law_ways_here", "_law_first", "_law_total", "_law_state", "_law_moves", "_law_ends", "_law_rows", "_law_told_here", "_law_lot", "_law_end"] ["_law_script"] (defScope (top 38)) := ⟨rfl, rfl, rfl, by decide +kernel, rfl, by decide +kernel, by decide +kernel⟩
def d22 : He.DefD := ⟨("Lot", some "__init__"), "__init__", "Lot.__init__", defArgs (inClass (top 12) 0), defBody (inClass (top 12) 0), defScope (inClass (top 12) 0), [], []⟩
theorem sc22 : FnScope ["self", "rows", "index", "row"] ["self", "rows"] (defScope (inClass (top 12) 0)) := ⟨rfl, rfl, rfl, by decide +kernel, rfl, by decide +kernel, by decide +kernel⟩
def d23 : He.DefD := ⟨("Lot", some "__eq__"), "__eq__", "Lot.__eq__", defArgs (inClass (top 12) 1), defBody (inClass (top 12) 1), defScope (inClass (top 12) 1), [], []⟩
theorem sc23 : FnScope ["self", "other"] ["self", "other"] (defScope (inClass (top 12) 1)) := ⟨rfl, rfl, rfl, by decide +kernel, rfl, by decide +kernel, by decide +kernel⟩
def d24 : He.DefD := ⟨("Machine", some "__init__"), "__init__", "Machine.__init__", defArgs (inClass (top 19) 0), defBody (inClass (top 19) 0), defScope (inClass (top 19) 0), [], []⟩
theorem sc24 : FnScope ["self", "moves", "ends", "item"] ["self", "moves", "ends"] (defScope (inClass (top 19) 0)) := ⟨rfl, rfl, rfl, by decide +kernel, rfl, by decide +kernel, by decide +kernel⟩
def d25 : He.DefD := ⟨("Machine", some "__eq__"), "__eq__", "Machine.__eq__", defArgs (inClass (top 19) 1), defBody (inClass (top 19) 1), defScope (inClass (top 19) 1), [], []⟩
theorem sc25 : FnScope ["self", "other"] ["self", "other"] (defScope (inClass (top 19) 1)) := ⟨rfl, rfl, rfl, by decide +kernel, rfl, by decide +kernel, by decide +kernel⟩
abbrev x0 : Stmt := inClass (top 2) 0
def d26 : He.DefD := ⟨("BadLot", some "__init__"), "__init__", "BadLot.__init__", defArgs x0, defBody x0, defScope x0, [], []⟩
theorem sc26 : FnScope ["self", "index"] ["self", "index"] (defScope x0) := ⟨rfl, rfl, rfl, by decide +kernel, rfl, by decide +kernel, by decide +kernel⟩
abbrev x1 : Stmt := inClass (top 3) 0
def d27 : He.DefD := ⟨("TooMany", some "__init__"), "__init__", "TooMany.__init__", defArgs x1, defBody x1, defScope x1, [], []⟩
theorem sc27 : FnScope ["self", "limit"] ["self", "limit"] (defScope x1) := ⟨rfl, rfl, rfl, by decide +kernel, rfl, by decide +kernel, by decide +kernel⟩
abbrev x2 : Stmt := inClass (top 4) 0
def d28 : He.DefD := ⟨("BadMachine", some "__init__"), "__init__", "BadMachine.__init__", defArgs x2, defBody x2, defScope x2, [], []⟩
theorem sc28 : FnScope ["self", "part"] ["self", "part"] (defScope x2) := ⟨rfl, rfl, rfl, by decide +kernel, rfl, by decide +kernel, by decide +kernel⟩
abbrev x3 : Stmt := inClass (top 5) 0
def d29 : He.DefD := ⟨("BadLength", some "__init__"), "__init__", "BadLength.__init__", defArgs x3, defBody x3, defScope x3, [], []⟩
theorem sc29 : FnScope ["self", "length"] ["self", "length"] (defScope x3) := ⟨rfl, rfl, rfl, by decide +kernel, rfl, by decide +kernel, by decide +kernel⟩
def fn : List He.DefD := ([d0, d1, d2, d3, d4, d5, d6, d7, d8, d9, d10, d11, d12, d13, d14, d15, d16, d17, d18, d19] : List He.DefD) ++ ([d20, d21, d22, d23, d24, d25, d26, d27, d28, d29] : List He.DefD)
def ex (K : PySem.W.Frag) : Bool := gkB tl K && ownB tl K && (tb.fn.all fun x => decide (PySem.W.nsIn K mainGlobals x = some (some (.ref (He.ga K x)))))
abbrev Ro : PySem.W.OpenRow := PySem.W.OpenLaw.row PySem.Challenge.rw_likeslips_k78_whole_rows_of_machines
abbrev hk : PySem.W.Hook := He.hookX 6 [] fn [] [] ex
def ob (s : PySem.W.SharedT) : He.AlX := He.obsX 6 [] fn [] [] ex (HandSHeadRun.getT s)
theorem ob_eq (s : PySem.W.SharedT) : ob s = hk.obs s.abs := He.obsX_eq (HandSHeadRun.getT_eq s)
def names : List PySem.Str := ((["SlipError", "BadLot", "TooMany", "BadMachine", "BadLength", "SIGNS", "MOST_ROWS", "MOST_PLACES", "is_integer", "is_row", "Lot", "is_ascending", "MOST_STATES", "MOST_COUNTED", "is_move", "Machine", "check_length", "ways_left", "many_of", "rows_of"] : List PySem.Str) ++ (["live_list", "live_before", "lot_of", "_law_hand", "_law_draw", "_law_rows_of", "_law_added", "_law_bits_machine", "_law_ring_machine", "_law_machine", "_law_told", "_law_ways", "_law_from"] : List PySem.Str))
theorem run (w : World) : HandSHeadRun.RunEq Ro (PySem.W.view Ro.prog [38]) hk ob 6000 names w := by
  intro os
  kernel_rfl
end LK78
end
section
set_option Elab.async false
set_option linter.all false
set_option maxRecDepth 100000
set_option maxHeartbeats 4000000
set_option autoImplicit false
namespace LK78
open PySem PySem.Spec PyProof.Rows L2 Ev
section
variable {P : Program} {w : World} {K : PySem.W.Frag} {h : Heap} {mg : Str → Option Value}
theorem df (X : K.In h) (G : h.Ns mainGlobals mg) (c : He.SaysX [] fn [] [] ex w h K) : ∀ (f : Nat) (x : Str), tb.fn[f]? = some x → ∃ fa, mg x = some (.ref fa) ∧ DefOk K tl.ct tb f fa := by
  have hfn := (and2 c.more).2
  intro f x hx
  have hm : mg x = some (.ref (He.ga K x)) := PySem.W.mg_of X G (of_decide_eq_true (List.all_eq_true.mp hfn x (List.mem_of_getElem? hx)))
  refine ⟨He.ga K x, hm, ?_⟩
  match f, hx with
  | 0, hx =>
    cases hx
    obtain ⟨fd, F⟩ := c.t.d.def_ 0 (d := d0) rfl
    exact ⟨_, _, _, _, _, _, fd, _, _, ⟨1, 1, false, b_is_integer⟩, F, sc0, F.bindsN fun _ _ _ _ _ _ us hl => (match us, hl with | [_], _ => rfl), rfl, rfl, rfl, ok_is_integer⟩
  | 1, hx =>
    cases hx
    obtain ⟨fd, F⟩ := c.t.d.def_ 1 (d := d1) rfl
    exact ⟨_, _, _, _, _, _, fd, _, _, ⟨1, 2, false, b_is_row⟩, F, sc1, F.bindsN fun _ _ _ _ _ _ us hl => (match us, hl with | [_], _ => rfl), rfl, rfl, rfl, ok_is_row⟩
  | 2, hx =>
    cases hx
    obtain ⟨fd, F⟩ := c.t.d.def_ 2 (d := d2) rfl
    exact ⟨_, _, _, _, _, _, fd, _, _, ⟨2, 5, false, b_is_ascending⟩, F, sc2, F.bindsN fun _ _ _ _ _ _ us hl => (match us, hl with | [_, _], _ => rfl), rfl, rfl, rfl, ok_is_ascending⟩
  | 3, hx =>
    cases hx
    obtain ⟨fd, F⟩ := c.t.d.def_ 3 (d := d3) rfl
    exact ⟨_, _, _, _, _, _, fd, _, _, ⟨2, 3, false, b_is_move⟩, F, sc3, F.bindsN fun _ _ _ _ _ _ us hl => (match us, hl with | [_, _], _ => rfl), rfl, rfl, rfl, ok_is_move⟩
  | 4, hx =>
    cases hx
    obtain ⟨fd, F⟩ := c.t.d.def_ 4 (d := d4) rfl
    exact ⟨_, _, _, _, _, _, fd, _, _, ⟨3, 3, false, b_check_length⟩, F, sc4, F.bindsN fun _ _ _ _ _ _ us hl => (match us, hl with | [_, _, _], _ => rfl), rfl, rfl, rfl, ok_check_length⟩
  | 5, hx =>
    cases hx
    obtain ⟨fd, F⟩ := c.t.d.def_ 5 (d := d5) rfl
    exact ⟨_, _, _, _, _, _, fd, _, _, ⟨2, 7, false, b_ways_left⟩, F, sc5, F.bindsN fun _ _ _ _ _ _ us hl => (match us, hl with | [_, _], _ => rfl), rfl, rfl, rfl, ok_ways_left⟩
  | 6, hx =>
    cases hx
    obtain ⟨fd, F⟩ := c.t.d.def_ 6 (d := d6) rfl
    exact ⟨_, _, _, _, _, _, fd, _, _, ⟨2, 2, false, b_many_of⟩, F, sc6, F.bindsN fun _ _ _ _ _ _ us hl => (match us, hl with | [_, _], _ => rfl), rfl, rfl, rfl, ok_many_of⟩
  | 7, hx =>
    cases hx
    obtain ⟨fd, F⟩ := c.t.d.def_ 7 (d := d7) rfl
    exact ⟨_, _, _, _, _, _, fd, _, _, ⟨2, 10, false, b_rows_of⟩, F, sc7, F.bindsN fun _ _ _ _ _ _ us hl => (match us, hl with | [_, _], _ => rfl), rfl, rfl, rfl, ok_rows_of⟩
  | 8, hx =>
    cases hx
    obtain ⟨fd, F⟩ := c.t.d.def_ 8 (d := d8) rfl
    exact ⟨_, _, _, _, _, _, fd, _, _, ⟨2, 4, false, b_live_list⟩, F, sc8, F.bindsN fun _ _ _ _ _ _ us hl => (match us, hl with | [_, _], _ => rfl), rfl, rfl, rfl, ok_live_list⟩
  | 9, hx =>
    cases hx
    obtain ⟨fd, F⟩ := c.t.d.def_ 9 (d := d9) rfl
    exact ⟨_, _, _, _, _, _, fd, _, _, ⟨2, 5, false, b_live_before⟩, F, sc9, F.bindsN fun _ _ _ _ _ _ us hl => (match us, hl with | [_, _], _ => rfl), rfl, rfl, rfl, ok_live_before⟩
  | 10, hx =>
    cases hx
    obtain ⟨fd, F⟩ := c.t.d.def_ 10 (d := d10) rfl
    exact ⟨_, _, _, _, _, _, fd, _, _, ⟨2, 3, false, b_lot_of⟩, F, sc10, F.bindsN fun _ _ _ _ _ _ us hl => (match us, hl with | [_, _], _ => rfl), rfl, rfl, rfl, ok_lot_of⟩
  | 11, hx =>
    cases hx
    obtain ⟨fd, F⟩ := c.t.d.def_ 11 (d := d11) rfl
    exact ⟨_, _, _, _, _, _, fd, _, _, ⟨1, 3, true, b_l_hand⟩, F, sc11, F.bindsN fun _ _ _ _ _ _ us hl => (match us, hl with | [_], _ => rfl), rfl, rfl, rfl, ok_l_hand⟩
  | 12, hx =>
    cases hx
    obtain ⟨fd, F⟩ := c.t.d.def_ 12 (d := d12) rfl
    exact ⟨_, _, _, _, _, _, fd, _, _, ⟨2, 5, false, b_l_draw⟩, F, sc12, F.bindsN fun _ _ _ _ _ _ us hl => (match us, hl with | [_, _], _ => rfl), rfl, rfl, rfl, ok_l_draw⟩
  | 13, hx =>
    cases hx
    obtain ⟨fd, F⟩ := c.t.d.def_ 13 (d := d13) rfl
    exact ⟨_, _, _, _, _, _, fd, _, _, ⟨3, 9, false, b_l_rows_of⟩, F, sc13, F.bindsN fun _ _ _ _ _ _ us hl => (match us, hl with | [_, _, _], _ => rfl), rfl, rfl, rfl, ok_l_rows_of⟩
  | 14, hx =>
    cases hx
    obtain ⟨fd, F⟩ := c.t.d.def_ 14 (d := d14) rfl
    exact ⟨_, _, _, _, _, _, fd, _, _, ⟨2, 4, false, b_l_added⟩, F, sc14, F.bindsN fun _ _ _ _ _ _ us hl => (match us, hl with | [_, _], _ => rfl), rfl, rfl, rfl, ok_l_added⟩
  | 15, hx =>
    cases hx
    obtain ⟨fd, F⟩ := c.t.d.def_ 15 (d := d15) rfl
    exact ⟨_, _, _, _, _, _, fd, _, _, ⟨1, 13, false, b_l_bits_machine⟩, F, sc15, F.bindsN fun _ _ _ _ _ _ us hl => (match us, hl with | [_], _ => rfl), rfl, rfl, rfl, ok_l_bits_machine⟩
  | 16, hx =>
    cases hx
    obtain ⟨fd, F⟩ := c.t.d.def_ 16 (d := d16) rfl
    exact ⟨_, _, _, _, _, _, fd, _, _, ⟨1, 7, false, b_l_ring_machine⟩, F, sc16, F.bindsN fun _ _ _ _ _ _ us hl => (match us, hl with | [_], _ => rfl), rfl, rfl, rfl, ok_l_ring_machine⟩
  | 17, hx =>
    cases hx
    obtain ⟨fd, F⟩ := c.t.d.def_ 17 (d := d17) rfl
    exact ⟨_, _, _, _, _, _, fd, _, _, ⟨2, 8, false, b_l_machine⟩, F, sc17, F.bindsN fun _ _ _ _ _ _ us hl => (match us, hl with | [_, _], _ => rfl), rfl, rfl, rfl, ok_l_machine⟩
  | 18, hx =>
    cases hx
    obtain ⟨fd, F⟩ := c.t.d.def_ 18 (d := d18) rfl
    exact ⟨_, _, _, _, _, _, fd, _, _, ⟨2, 4, false, b_l_told⟩, F, sc18, F.bindsN fun _ _ _ _ _ _ us hl => (match us, hl with | [_, _], _ => rfl), rfl, rfl, rfl, ok_l_told⟩
  | 19, hx =>
    cases hx
    obtain ⟨fd, F⟩ := c.t.d.def_ 19 (d := d19) rfl
    exact ⟨_, _, _, _, _, _, fd, _, _, ⟨2, 7, false, b_l_ways⟩, F, sc19, F.bindsN fun _ _ _ _ _ _ us hl => (match us, hl with | [_, _], _ => rfl), rfl, rfl, rfl, ok_l_ways⟩
  | 20, hx =>
    cases hx
    obtain ⟨fd, F⟩ := c.t.d.def_ 20 (d := d20) rfl
    exact ⟨_, _, _, _, _, _, fd, _, _, ⟨3, 9, false, b_l_from⟩, F, sc20, F.bindsN fun _ _ _ _ _ _ us hl => (match us, hl with | [_, _, _], _ => rfl), rfl, rfl, rfl, ok_l_from⟩
  | 21, hx =>
    cases hx
    obtain ⟨fd, F⟩ := c.t.d.def_ 21 (d := d21) rfl
    exact ⟨_, _, _, _, _, _, fd, _, _, ⟨1, 14, false, b_law⟩, F, sc21, F.bindsN fun _ _ _ _ _ _ us hl => (match us, hl with | [_], _ => rfl), rfl, rfl, rfl, ok_law⟩
  | n + 22, hx => exact absurd hx (by simp [tb])
theorem df_ini (c : He.SaysX [] fn [] [] ex w h K) : ∀ q ∈ tl.ini, DefOk K tl.ct tb q.2 (He.ma K (clA tl K q.1) "__init__") := by
  intro q hq
  simp only [tl, List.mem_cons, List.not_mem_nil, or_false] at hq
  rcases hq with rfl | rfl
  · obtain ⟨fd, F⟩ := c.t.d.def_ 22 (d := d22) rfl
    exact ⟨_, _, _, _, _, _, fd, _, _, ⟨2, 4, false, b_Lot___init__⟩, F, sc22, F.bindsN fun _ _ _ _ _ _ us hl => (match us, hl with | [_, _], _ => rfl), rfl, rfl, rfl, ok_Lot___init__⟩
  · obtain ⟨fd, F⟩ := c.t.d.def_ 24 (d := d24) rfl
    exact ⟨_, _, _, _, _, _, fd, _, _, ⟨3, 4, false, b_Machine___init__⟩, F, sc24, F.bindsN fun _ _ _ _ _ _ us hl => (match us, hl with | [_, _, _], _ => rfl), rfl, rfl, rfl, ok_Machine___init__⟩
theorem df_mth (c : He.SaysX [] fn [] [] ex w h K) : ∀ q ∈ tl.mth, DefOk K tl.ct tb q.2.2 (He.ma K (clA tl K q.1) (atN tl q.2.1)) := by
  intro q hq
  simp only [tl, List.mem_cons, List.not_mem_nil, or_false] at hq
  rcases hq with rfl | rfl
  · obtain ⟨fd, F⟩ := c.t.d.def_ 23 (d := d23) rfl
    exact ⟨_, _, _, _, _, _, fd, _, _, ⟨2, 2, false, b_Lot___eq__⟩, F, sc23, F.bindsN fun _ _ _ _ _ _ us hl => (match us, hl with | [_, _], _ => rfl), rfl, rfl, rfl, ok_Lot___eq__⟩
  · obtain ⟨fd, F⟩ := c.t.d.def_ 25 (d := d25) rfl
    exact ⟨_, _, _, _, _, _, fd, _, _, ⟨2, 2, false, b_Machine___eq__⟩, F, sc25, F.bindsN fun _ _ _ _ _ _ us hl => (match us, hl with | [_, _], _ => rfl), rfl, rfl, rfl, ok_Machine___eq__⟩
theorem xi (base : Heap) (c : He.SaysX [] fn [] [] ex w h K) : ∀ q ∈ tl.xin, ∃ fd, FnOk P w K mg base (L2.CX P w) 1 (He.ma K (clA tl K q.c) "__init__") fd [q.sn, q.pn] (spI1 K (atN tl q.f)) ∧ Binds K fd [q.sn, q.pn] [] := by
  intro q hq
  simp only [tl, List.mem_cons, List.not_mem_nil, or_false] at hq
  rcases hq with rfl | rfl | rfl | rfl
  · obtain ⟨fd, F⟩ := c.t.d.def_ 26 (d := d26) rfl
    exact ⟨fd, init1 F sc26 (by decide +kernel) (by decide +kernel) (by decide +kernel) (by decide +kernel), F.bindsN fun _ _ _ _ _ _ us hl => (match us, hl with | [_, _], _ => rfl)⟩
  · obtain ⟨fd, F⟩ := c.t.d.def_ 27 (d := d27) rfl
    exact ⟨fd, init1 F sc27 (by decide +kernel) (by decide +kernel) (by decide +kernel) (by decide +kernel), F.bindsN fun _ _ _ _ _ _ us hl => (match us, hl with | [_, _], _ => rfl)⟩
  · obtain ⟨fd, F⟩ := c.t.d.def_ 28 (d := d28) rfl
    exact ⟨fd, init1 F sc28 (by decide +kernel) (by decide +kernel) (by decide +kernel) (by decide +kernel), F.bindsN fun _ _ _ _ _ _ us hl => (match us, hl with | [_, _], _ => rfl)⟩
  · obtain ⟨fd, F⟩ := c.t.d.def_ 29 (d := d29) rfl
    exact ⟨fd, init1 F sc29 (by decide +kernel) (by decide +kernel) (by decide +kernel) (by decide +kernel), F.bindsN fun _ _ _ _ _ _ us hl => (match us, hl with | [_, _], _ => rfl)⟩
theorem facts (X : K.In h) (G : h.Ns mainGlobals mg) (c : He.SaysX [] fn [] [] ex w h K) {f : Addr} (hfa : mg ("law" : Str) = some (.ref f)) :
    ∃ fd : FuncData, (∀ (s : Shared) (v : Value), BindsTo s fd ⟨[v], []⟩ [("_law_script", v)]) ∧ ∀ base : Heap, FnOk P w K mg base (L2.CX P w) (2 * 60 + 4 + 1) f fd ["_law_script"] (spD (fxOf tl K an_nd) 1 (callD tl.ct (60 + 1) 21)) := by
  obtain ⟨fd, F⟩ := c.t.d.def_ 21 (d := d21) rfl
  have hg := (and2 (and2 c.more).1).1
  have ho := (and2 (and2 c.more).1).2
  have gk := gk_of (nd := an_nd) X G hg
  have hfn := (and2 c.more).2
  have e := hfa.symm.trans (PySem.W.mg_of X G (of_decide_eq_true (List.all_eq_true.mp hfn "law" (by decide +kernel))))
  cases e
  have b := FunD.bindsA (ps := ["_law_script"]) F fun _ _ _ _ _ _ us hl => match us, hl with | [_], _ => rfl
  exact ⟨fd, fun s v => b s [v] rfl, fun base => def_fn (F := fxOf tl K an_nd) (d := ⟨1, 14, false, b_law⟩) gk (rz_of hg (xi base c)) (all_ok (F := fxOf tl K an_nd) gk (fun _ _ => rz_of hg (xi base c)) (dfs_of (nd := an_nd) ho (df X G c) (df_ini c) (df_mth c)) 60) F sc21 rfl rfl ok_law⟩
end
end LK78
end
section
set_option Elab.async false
set_option linter.all false
set_option maxRecDepth 100000
set_option maxHeartbeats 1000000
set_option autoImplicit false
namespace LK78
open PySem PySem.Spec PyProof.Rows L2 Ev
/-- is_integer -/
theorem e_is_integer {k : Nat} {x : D} {S : List O} (h : plD x = true) : callD tl.ct (k + 1) F_is_integer [x] S = .ok (.bl (isIntD x)) S := by
  rw [run_is_integer]
  cases x <;> first | (cases h; done) | simp -dsimp [b_is_integer, isIntD]
end LK78
end
section
set_option Elab.async false
set_option linter.all false
set_option maxRecDepth 100000
set_option maxHeartbeats 1000000
set_option autoImplicit false
namespace LK78
open PySem PySem.Spec PyProof.Rows L2 Ev
/-- a machine -/
structure Mc where
  mv : List (Nat × Nat)
  en : List Nat
def mvD (mv : List (Nat × Nat)) : D := .tup (mv.map fun p => .tup [.int (p.1 : Nat), .int (p.2 : Nat)])
def mcD (M : Mc) : D := .ins C_Machine [A_moves, A_ends] [mvD M.mv, tupI M.en]
def Mc.n (M : Mc) : Nat := M.mv.length
structure Mc.ok (M : Mc) : Prop where
  pos : 1 ≤ M.n
  le : M.n ≤ 8
  mvlt : ∀ p ∈ M.mv, p.1 < M.n ∧ p.2 < M.n
  enlt : ∀ e ∈ M.en, e < M.n
  asc : M.en.Pairwise (· < ·)
theorem asc_len {n : Nat} : ∀ {xs : List Nat} (a : Nat), (∀ e ∈ xs, a ≤ e ∧ e < n) → xs.Pairwise (· < ·) → xs.length ≤ n - a
  | [], _, _, _ => Nat.zero_le _
  | x :: xs, a, h, hp => by
    obtain ⟨h1, h2⟩ := List.pairwise_cons.mp hp
    have hx := h x List.mem_cons_self
    have := asc_len (n := n) (xs := xs) (x + 1) (fun e he => ⟨h1 e he, (h e (List.mem_cons_of_mem _ he)).2⟩) h2
    simp; omega
theorem Mc.ok.enlen {M : Mc} (h : M.ok) : M.en.length ≤ 8 := by
  have := asc_len (n := M.n) 0 (fun e he => ⟨Nat.zero_le _, h.enlt e he⟩) h.asc
  have := h.le
  omega
@[simp] theorem at_moves {M : Mc} {S : List O} : attrD tl.ct (mcD M) A_moves S = .ok (mvD M.mv) S := rfl
@[simp] theorem at_ends {M : Mc} {S : List O} : attrD tl.ct (mcD M) A_ends S = .ok (tupI M.en) S := rfl
theorem nr_mv (mv : List (Nat × Nat)) : nrD (mvD mv) = true := nrL_map fun _ => rfl
theorem nr_mc (M : Mc) : nrD (mcD M) = true := by
  show (nrD (mvD M.mv) && (nrD (tupI M.en) && true)) = true
  rw [nr_mv, nr_tupI]; rfl
theorem len_mv {mv : List (Nat × Nat)} {S : List O} : lenD [mvD mv] S = .ok (.int (mv.length : Nat)) S := by
  show R.ok (D.int ((mv.map _).length : Nat)) S = _
  rw [List.length_map]
@[simp] theorem src_mv {mv : List (Nat × Nat)} {S : List O} : srcOf S (mvD mv) = some ⟨mv.map fun p => .tup [.int (p.1 : Nat), .int (p.2 : Nat)], []⟩ := rfl
@[simp] theorem src_tupI {ps : List Nat} {S : List O} : srcOf S (tupI ps) = some ⟨ps.map fun p => .int (p : Nat), []⟩ := rfl
/-- is_ascending, of a tuple of numbers -/
def ascB (ps : List Nat) : Bool := (ps.zip (ps.drop 1)).all fun p => decide (p.1 < p.2)
theorem asc_true : ∀ {ps : List Nat}, ps.Pairwise (· < ·) → ascB ps = true
  | [], _ => rfl
  | [a], _ => rfl
  | a :: b :: r, h => by
    obtain ⟨h1, h2⟩ := List.pairwise_cons.mp h
    have := asc_true h2
    unfold ascB at this ⊢
    rw [List.drop_succ_cons, List.drop_zero, List.zip_cons_cons, List.all_cons, decide_eq_true (h1 b List.mem_cons_self)]
    simpa using this
theorem zip_map' {α β : Type} (f : α → β) : ∀ (xs ys : List α), (xs.map f).zip (ys.map f) = (xs.zip ys).map fun p => (f p.1, f p.2)
  | [], _ => by simp
  | _ :: _, [] => by simp
  | x :: xs, y :: ys => by rw [List.map_cons, List.map_cons, List.zip_cons_cons, zip_map' f xs ys]; rfl
def ltAll (n : Nat) (ps : List Nat) : Bool := ps.all fun p => decide (p < n)
def mvAll (n : Nat) (mv : List (Nat × Nat)) : Bool := mv.all fun p => decide (p.1 < n) && decide (p.2 < n)
theorem e_is_ascending {k n : Nat} {ps : List Nat} (hz : ps.length ≤ 1000) (S : List O) : callD tl.ct (k + 2) F_is_ascending [tupI ps, .int (n : Nat)] S = .ok (.bl (ltAll n ps && ascB ps)) S := by
  rw [run_is_ascending]
  have hisi : ∀ T, isiD tl.ct (tupI ps) T [.tuple] = .ok (.bl true) T := fun T => rfl
  simp -dsimp [-isiD, b_is_ascending, hisi]
  generalize hr : gcR _ (lcE _ _ _ _) = r
  have hr := lc_resV hr (fun p : Nat => D.int (p : Nat)) (fun p => .bl (decide (p < n))) rfl (fun p _ T => by
    have h0 : (0 : Int) ≤ (p : Nat) := by omega
    have e : (decide ((p : Int) < (n : Nat))) = decide (p < n) := by simp
    simp -dsimp [e_is_integer (show plD (.int (p : Nat)) = true from rfl), isIntD, h0, e]) (by omega) (fun _ _ => rfl)
  subst hr
  have hall : ∀ T, allD [.lst (ps.map fun p => D.bl (decide (p < n)))] T = .ok (.bl (ltAll n ps)) T := fun T => all_bls (g := fun p => decide (p < n)) fun _ => rfl
  simp -dsimp [hall]
  cases ha : ltAll n ps with
  | false => simp
  | true =>
    have hsl : ∀ T, sliceD (tupI ps) (some 1) none T = .ok (tupI (ps.drop 1)) T := fun T => by
      show R.ok (D.tup (cutL (ps.map fun p => D.int (p : Nat)) (some ((1 : Nat) : Int)) none)) T = _
      unfold tupI
      rw [List.map_drop]
      cases ps with
      | nil => rfl
      | cons a r => rw [cut_drop (by simp)]
    simp -dsimp [-List.drop_one, -List.map_drop, hsl, zipS]
    rw [zip_map']
    simp only [List.map_map, Function.comp_def]
    generalize hr : gcR _ (lcE _ _ _ _) = r
    have hr := lc_resV hr (fun p : Nat × Nat => D.tup [.int (p.1 : Nat), .int (p.2 : Nat)]) (fun p => .bl (decide (p.1 < p.2))) rfl (fun p _ T => by simp -dsimp) (by simp [List.length_zip]; omega) (fun _ _ => rfl)
    subst hr
    have hall2 : ∀ T, allD [.lst ((ps.zip (ps.drop 1)).map fun p => D.bl (decide (p.1 < p.2)))] T = .ok (.bl (ascB ps)) T := fun T => all_bls (g := fun p : Nat × Nat => decide (p.1 < p.2)) fun _ => rfl
    simp -dsimp [-List.drop_one, hall2]
/-- is_move, of a pair of numbers -/
theorem e_is_move {k n a b : Nat} (S : List O) : callD tl.ct (k + 2) F_is_move [.tup [.int (a : Nat), .int (b : Nat)], .int (n : Nat)] S = .ok (.bl (decide (a < n) && decide (b < n))) S := by
  rw [run_is_move]
  simp -dsimp [b_is_move]
  generalize hr : gcR _ (lcE _ _ _ _) = r
  have hr := lc_resV hr (fun p : Nat => D.int (p : Nat)) (fun p => .bl (decide (p < n))) (xs := [a, b]) rfl (fun p _ T => by
    have h0 : (0 : Int) ≤ (p : Nat) := by omega
    have e : (decide ((p : Int) < (n : Nat))) = decide (p < n) := by simp
    simp -dsimp [e_is_integer (show plD (.int (p : Nat)) = true from rfl), isIntD, h0, e]) (by simp) (fun _ _ => rfl)
  subst hr
  simp -dsimp [-List.map_cons, all_bls (f := fun p => D.bl (decide (p < n))) (g := fun p => decide (p < n)) fun _ => rfl]
/-- Machine(moves, ends) -/
theorem e_Machine {k : Nat} {M : Mc} (h : M.ok) (S : List O) : gcR S (mkRun tl.ct (callD tl.ct (k + 3)) C_Machine [mvD M.mv, tupI M.en] S) = .ok (mcD M) S := by
  have h1 := h.pos
  have h2 := h.le
  have hinit : callD tl.ct (k + 3) F_Machine___init__ [.ref S.length, mvD M.mv, tupI M.en] (S ++ [.ins C_Machine [] []]) = .ok .non (S ++ [.ins C_Machine [A_moves, A_ends] [mvD M.mv, tupI M.en]]) := by
    rw [run_Machine___init__]
    have hisi : ∀ T, isiD tl.ct (mvD M.mv) T [.tuple] = .ok (.bl true) T := fun T => rfl
    have c1 : (1 : Int) ≤ (M.mv.length : Nat) := by unfold Mc.n at h1; omega
    have c2 : ((M.mv.length : Nat) : Int) ≤ 8 := by unfold Mc.n at h2; omega
    have c1n : 1 ≤ M.mv.length := h1
    have c2n : M.mv.length ≤ 8 := h2
    simp -dsimp [-isiD, b_Machine___init__, hisi, len_mv, c1, c2, c1n, c2n]
    generalize hr : gcR _ (lcE _ _ _ _) = r
    have hr := lc_resV hr (fun p : Nat × Nat => D.tup [.int (p.1 : Nat), .int (p.2 : Nat)]) (fun p => .bl (decide (p.1 < M.mv.length) && decide (p.2 < M.mv.length))) rfl (fun p hp T => by
      obtain ⟨q1, q2⟩ := h.mvlt p hp
      have q1 : p.1 < M.mv.length := q1
      have q2 : p.2 < M.mv.length := q2
      simp -dsimp [len_mv, e_is_move, q1, q2]) (by omega) (fun _ _ => rfl)
    have hall : ∀ T, allD [.lst (M.mv.map fun p => D.bl (decide (p.1 < M.mv.length) && decide (p.2 < M.mv.length)))] T = .ok (.bl (mvAll M.mv.length M.mv)) T := fun T => all_bls (g := fun p : Nat × Nat => decide (p.1 < M.mv.length) && decide (p.2 < M.mv.length)) fun _ => rfl
    have hmv : mvAll M.mv.length M.mv = true := List.all_eq_true.mpr fun p hp => by
      obtain ⟨q1, q2⟩ := h.mvlt p hp
      rw [decide_eq_true (show p.1 < M.mv.length from q1), decide_eq_true (show p.2 < M.mv.length from q2)]; rfl
    subst hr
    have he : ltAll M.mv.length M.en = true := List.all_eq_true.mpr fun e he => decide_eq_true (h.enlt e he)
    have ha : ascB M.en = true := asc_true h.asc
    have hel := h.enlen
    have s1 := setF_top (t := tl.ct) (S := S) (C := C_Machine) (fs := []) (vs := []) (f := A_moves) (d := mvD M.mv) rfl (by decide)
    have s2 := setF_top (t := tl.ct) (S := S) (C := C_Machine) (fs := [A_moves]) (vs := [mvD M.mv]) (f := A_ends) (d := tupI M.en) rfl (by decide)
    have p1 : putD [] [] A_moves (mvD M.mv) = ([A_moves], [mvD M.mv]) := rfl
    have p2 : putD [A_moves] [mvD M.mv] A_ends (tupI M.en) = ([A_moves, A_ends], [mvD M.mv, tupI M.en]) := rfl
    rw [p1] at s1
    rw [p2] at s2
    simp -dsimp [hall, hmv, len_mv, e_is_ascending (show M.en.length ≤ 1000 by omega), he, ha, s1, s2]
    refine gcR_init rfl (nr_clL _ ?_)
    rw [nrL_cons, nrL_cons, nr_mv, nr_tupI]; rfl
  rw [mk_Machine, hinit, R.bind_ok, mkEnd_non]
  refine gcR_ins (nr_clL _ ?_)
  rw [nrL_cons, nrL_cons, nr_mv, nr_tupI]; rfl
/-- the ways of a length to an end -/
def Mc.to (M : Mc) (s : Nat) : Nat × Nat := M.mv.getD s (0, 0)
def cnt (M : Mc) : Nat → Nat → Int
  | 0, s => if s ∈ M.en then 1 else 0
  | L + 1, s => cnt M L (M.to s).1 + cnt M L (M.to s).2
def wD (M : Mc) (L : Nat) : D := .lst ((List.range M.n).map fun s => .int (cnt M L s))
theorem in_en {M : Mc} {s : Nat} {S : List O} : inDS false (.int (s : Nat)) (tupI M.en) S = .ok (.bl (decide (s ∈ M.en))) S := by
  rw [in_tupI]
  simp
theorem e_ways_left {k L : Nat} {M : Mc} (h : M.ok) (hL : L ≤ 1000) (S : List O) : callD tl.ct (k + 1) F_ways_left [mcD M, .int (L : Nat)] S = .ok (wD M L) S := by
  have h2 := h.le
  have h2' : M.mv.length ≤ 8 := h.le
  rw [run_ways_left]
  simp -dsimp [b_ways_left, len_mv, rng_0 (n := M.mv.length) (by omega), rng_0 (n := L) (by omega)]
  generalize hr : gcR _ (lcE _ _ _ _) = r
  have hr := lc_resV hr (fun p : Nat => D.int (p : Nat)) (fun s => .int (cnt M 0 s)) rfl (fun s _ T => by
    simp -dsimp [in_en]
    show (intD [.bl (decide (s ∈ M.en))] T).prim.map some = _
    unfold cnt
    by_cases hs : s ∈ M.en
    · simp -dsimp [hs]; rfl
    · simp -dsimp [hs]; rfl) (by simp; omega) (fun _ _ => rfl)
  subst hr
  simp -dsimp [rng_0 (n := L) (by omega)]
  refine fr_foldK (P := fun g => gcR S (fin g) = R.ok (wD M L) S) (fun i : Nat => D.int (i : Nat)) (fun z ρ => ∃ x, ρ = [some (mcD M), some (.int (L : Nat)), some (wD M z), x, none, none, none]) (fun z _ => z + 1) (z := 0) ⟨_, rfl⟩ ?_ ?_
  · rintro ys i zs he ρ ⟨x, rfl⟩
    generalize ys.foldl (fun z _ => z + 1) 0 = z
    refine ⟨_, [some (mcD M), some (.int (L : Nat)), some (wD M (z + 1)), some (.int (i : Nat)), none, none, none], rfl, ?_, _, rfl⟩
    simp -dsimp
    generalize hr : gcR _ (lcE _ _ _ _) = r
    have hr := lc_resV hr (fun p : Nat × Nat => D.tup [.int (p.1 : Nat), .int (p.2 : Nat)]) (fun p => .int (cnt M z p.1 + cnt M z p.2)) rfl (fun p hp T => by
      obtain ⟨q1, q2⟩ := h.mvlt p hp
      have i1 : ∀ T, idxD (wD M z) (.int (p.1 : Nat)) T = .ok (.int (cnt M z p.1)) T := fun T => idx_rg q1
      have i2 : ∀ T, idxD (wD M z) (.int (p.2 : Nat)) T = .ok (.int (cnt M z p.2)) T := fun T => idx_rg q2
      simp -dsimp [i1, i2]) (by omega) (fun _ _ => rfl)
    subst hr
    rw [map_rg _ M.mv (0, 0)]
    simp -dsimp
    rfl
  · rintro ρ2 ⟨x, rfl⟩
    rw [foldl_cnt, List.length_range, Nat.zero_add]
    simp -dsimp
    exact gcR_nr (nrL_map fun _ => rfl)
/-- check_length -/
theorem e_check_length {k : Nat} {L a b : Int} (S : List O) (h1 : a ≤ L) (h2 : L ≤ b) : callD tl.ct (k + 2) F_check_length [.int L, .int a, .int b] S = .ok (.int L) S := by
  rw [run_check_length]
  simp -dsimp [b_check_length, e_is_integer (show plD (.int L) = true from rfl), isIntD, h1, h2]
theorem e_many_of {k L : Nat} {M : Mc} (h : M.ok) (hL : L ≤ 200) (S : List O) : callD tl.ct (k + 3) F_many_of [mcD M, .int (L : Nat)] S = .ok (.int (cnt M L 0)) S := by
  have i0 : ∀ T, idxD (wD M L) (.int 0) T = .ok (.int (cnt M L 0)) T := fun T => idx_rg (p := 0) h.pos
  rw [run_many_of]
  simp -dsimp [b_many_of, e_check_length (k := k) (L := (L : Nat)) (a := 0) (b := 200) S (by omega) (by omega), e_ways_left h (show L ≤ 1000 by omega), i0]
end LK78
end
section
set_option Elab.async false
set_option linter.all false
set_option maxRecDepth 100000
set_option maxHeartbeats 1000000
set_option autoImplicit false
namespace LK78
open PySem PySem.Spec PyProof.Rows L2 Ev
/-- the live states by the number of signs left -/
def lvA (M : Mc) (ls : List Nat) : List Nat := ((M.mv.zipIdx 0).filter fun q => decide (q.1.1 ∈ ls) || decide (q.1.2 ∈ ls)).map (·.2)
def lv (M : Mc) : Nat → List Nat
  | 0 => M.en
  | j + 1 => lvA M (lv M j)
def natL (ps : List Nat) : D := .lst (ps.map fun p => .int (p : Nat))
@[simp] theorem nr_natL (ps : List Nat) : nrD (natL ps) = true := nrL_map fun _ => rfl
theorem to_get {M : Mc} {s : Nat} (h : s < M.mv.length) : M.to s = M.mv[s] := by
  unfold Mc.to
  rw [List.getD_eq_getElem?_getD, List.getElem?_eq_getElem h]; rfl
theorem lvA_mem {M : Mc} {ls : List Nat} {s : Nat} : s ∈ lvA M ls ↔ s < M.n ∧ ((M.to s).1 ∈ ls ∨ (M.to s).2 ∈ ls) := by
  unfold lvA
  constructor
  · intro h
    obtain ⟨⟨p, i⟩, hq, rfl⟩ := List.mem_map.mp h
    obtain ⟨h1, h2⟩ := List.mem_filter.mp hq
    obtain ⟨-, h4, h5⟩ := List.mem_zipIdx h1
    simp at h4 h5
    refine ⟨h4, ?_⟩
    rw [to_get h4, ← h5]
    simpa using h2
  · rintro ⟨h1, h2⟩
    have h1' : s < M.mv.length := h1
    refine List.mem_map.mpr ⟨(M.mv[s], s), List.mem_filter.mpr ⟨?_, ?_⟩, rfl⟩
    · rw [List.mem_zipIdx_iff_getElem?]
      simp [h1']
    · rw [to_get h1'] at h2
      simpa using h2
theorem cnt_nn (M : Mc) : ∀ L s, 0 ≤ cnt M L s
  | 0, s => by unfold cnt; split <;> omega
  | L + 1, s => by
    have h1 := cnt_nn M L (M.to s).1
    have h2 := cnt_nn M L (M.to s).2
    show 0 ≤ cnt M L _ + cnt M L _
    omega
theorem lv_cnt {M : Mc} (h : M.ok) : ∀ (j s : Nat), s < M.n → (s ∈ lv M j ↔ 0 < cnt M j s)
  | 0, s, _ => by
    show s ∈ M.en ↔ 0 < (if s ∈ M.en then (1 : Int) else 0)
    split <;> simp_all
  | j + 1, s, hs => by
    show s ∈ lvA M (lv M j) ↔ _
    have hs' : s < M.mv.length := hs
    have hq := h.mvlt (M.mv[s]) (List.getElem_mem hs')
    rw [← to_get hs'] at hq
    rw [lvA_mem, lv_cnt h j _ hq.1, lv_cnt h j _ hq.2]
    have h1 := cnt_nn M j (M.to s).1
    have h2 := cnt_nn M j (M.to s).2
    show _ ↔ 0 < cnt M j _ + cnt M j _
    constructor
    · rintro ⟨_, h3 | h3⟩ <;> omega
    · intro h3
      refine ⟨hs, ?_⟩
      by_cases h4 : 0 < cnt M j (M.to s).1
      · exact .inl h4
      · exact .inr (by omega)
/-- live_before -/
theorem e_live_before {k : Nat} {M : Mc} (h : M.ok) (ls : List Nat) (S : List O) : callD tl.ct (k + 1) F_live_before [mcD M, natL ls] S = .ok (natL (lvA M ls)) S := by
  have h2 : M.mv.length ≤ 8 := h.le
  have hin : ∀ (p : Nat) T, inDS false (.int (p : Nat)) (natL ls) T = .ok (.bl (decide (p ∈ ls))) T := fun p T => by
    unfold natL
    rw [in_lstI]; simp
  rw [run_live_before]
  simp -dsimp [b_live_before, enmS, enm_zip]
  generalize hr : gcR _ (lcE _ _ _ _) = r
  have hr := lc_resF hr (fun q : (Nat × Nat) × Nat => D.tup [.int (q.2 : Nat), .tup [.int (q.1.1 : Nat), .int (q.1.2 : Nat)]]) (fun q => decide (q.1.1 ∈ ls) || decide (q.1.2 ∈ ls)) (fun q => .int (q.2 : Nat)) rfl (fun q _ T => by
    by_cases h1 : q.1.1 ∈ ls
    · simp -dsimp [hin, h1]
    · by_cases h2 : q.1.2 ∈ ls
      · simp -dsimp [hin, h1, h2]
      · simp -dsimp [hin, h1, h2]) (by simp; omega) (fun _ _ => rfl)
  subst hr
  simp -dsimp
  rw [gcR_lm fun _ => rfl]
  simp [natL, lvA, Function.comp_def]
/-- live_list -/
def lvD (M : Mc) (L : Nat) : D := .lst ((List.range (L + 1)).map fun j => natL (lv M j))
theorem e_live_list {k L : Nat} {M : Mc} (h : M.ok) (hL : L ≤ 1000) (S : List O) : callD tl.ct (k + 2) F_live_list [mcD M, .int (L : Nat)] S = .ok (lvD M L) S := by
  have hls : ∀ T, listD [tupI M.en] T = .ok (natL M.en) T := fun T => rfl
  rw [run_live_list]
  simp -dsimp [b_live_list, hls, nat_sz, rng_0 (n := L) (by omega)]
  obtain ⟨J, hJ⟩ := shut (fun (z : Nat) (ρ : Env') (S' : List O) => ∃ x, ρ = [some (mcD M), some (.int (L : Nat)), some (.ref S.length), x] ∧ S' = S ++ [.lst ((List.range (z + 1)).map fun j => natL (lv M j))])
  refine fr_NK (P := fun g => gcR S (fin g) = R.ok (lvD M L) S) (fun i : Nat => D.int (i : Nat)) J (fun z _ => z + 1) (z := 0) (by rw [hJ]; exact ⟨_, rfl, rfl⟩) ?_ ?_
  · intro ys i zs he ρ S1 hh
    have hi := range_at he
    rw [foldl_cnt, Nat.zero_add] at hh ⊢
    rw [← hi.1] at hh ⊢
    rw [hJ] at hh
    obtain ⟨x, rfl, rfl⟩ := hh
    refine ⟨_, rfl, ?_⟩
    have hl : ∀ z : Nat, ((List.range (z + 1)).map fun j => natL (lv M j)) = ((List.range z).map fun j => natL (lv M j)) ++ [natL (lv M z)] := fun z => by rw [List.range_succ, List.map_append]; rfl
    have e1 : idxD (.ref S.length) (.int (-1)) (S ++ [.lst ((List.range (i + 1)).map fun j => natL (lv M j))]) = .ok (natL (lv M i)) (S ++ [.lst ((List.range (i + 1)).map fun j => natL (lv M j))]) := idx_last (ds := (List.range i).map fun j => natL (lv M j)) (by rw [hl]; simp)
    simp -dsimp [e1, e_live_before h, app_top (show ((List.range (i + 1)).map fun j => natL (lv M j)).length ≤ 100000 by simp; omega)]
    refine Nx.mk ?_
    rw [hJ]
    exact ⟨_, rfl, by rw [hl (i + 1)]; rfl⟩
  · intro ρ2 S2 hh
    rw [foldl_cnt, Nat.zero_add, List.length_range] at hh
    rw [hJ] at hh
    obtain ⟨x, rfl, rfl⟩ := hh
    simp -dsimp
    exact gcR_lst (nr_clL _ (nrL_map fun _ => nr_natL _))
end LK78
end
section
set_option Elab.async false
set_option linter.all false
set_option maxRecDepth 100000
set_option maxHeartbeats 1000000
set_option autoImplicit false
namespace LK78
open PySem PySem.Spec PyProof.Rows L2 Ev
/-- the hand that draws -/
structure Hd where
  cs : List Int
  i : Nat
  z : Int
  s : Int
  c : Int
def hO (h : Hd) : O := .lst [.lst (h.cs.map D.int), .int (h.i : Nat), .int h.z, .int h.s, .int h.c]
/-- a cell is taken -/
def Hd.a (h : Hd) : Hd := if h.z = 0 ∧ h.i < h.cs.length then
    { h with i := h.i + 1, s := (h.s * 69621 + h.cs.getD h.i 0 + 11).fmod 2147483629, z := if (10 : Int) ^ 18 ≤ h.cs.getD h.i 0 then h.cs.getD h.i 0 else h.z }
  else h
def rnd1 (s c : Int) : Int := ((s + 7919 * c) * 48271).fmod 2147483647
def rnd2 (n : Int) : Int := (n * (n.fdiv 1009 + 69621)).fmod 2147483647
def rnd3 (n : Int) : Int := (n * (n.fdiv 2003 + 40692)).fmod 2147483399
def rnd (s c : Int) : Int := rnd3 (rnd2 (rnd1 s c))
def Hd.v (h : Hd) (m : Nat) : Nat := ((if 0 < h.a.z then h.a.z else (rnd h.a.s (h.a.c + 1)).fdiv 16).fmod m).toNat
def Hd.n (h : Hd) (m : Nat) : Hd := if 0 < h.a.z then { h.a with z := h.a.z.fdiv m } else { h.a with c := h.a.c + 1 }
theorem fmod_b (x : Int) {m : Int} (h : 0 < m) : 0 ≤ x.fmod m ∧ x.fmod m < m := by
  rw [Int.fmod_eq_emod_of_nonneg _ (Int.le_of_lt h)]
  exact ⟨Int.emod_nonneg _ (by omega), Int.emod_lt_of_pos _ h⟩
theorem Hd.v_lt (h : Hd) {m : Nat} (hm : 0 < m) : h.v m < m := by
  have := fmod_b (if 0 < h.a.z then h.a.z else (rnd h.a.s (h.a.c + 1)).fdiv 16) (m := (m : Int)) (by omega)
  unfold Hd.v
  omega
theorem Hd.v_int (h : Hd) {m : Nat} (hm : 0 < m) : ((h.v m : Nat) : Int) = (if 0 < h.a.z then h.a.z else (rnd h.a.s (h.a.c + 1)).fdiv 16).fmod m := by
  have := fmod_b (if 0 < h.a.z then h.a.z else (rnd h.a.s (h.a.c + 1)).fdiv 16) (m := (m : Int)) (by omega)
  unfold Hd.v
  omega
theorem mul_l {i j : Int} {S : List O} (h1 : -(2 ^ 64) < i) (h2 : i < 2 ^ 64) : mulD (.int i) (.int j) S = .ok (.int (i * j)) S := by
  show (if CMul i j ∨ CMulW i j then R.ok (D.int (i * j)) S else .bad) = _
  rw [if_pos (.inl (.inl ⟨h1, h2⟩))]
theorem mul_r {i j : Int} {S : List O} (h1 : -(2 ^ 64) < j) (h2 : j < 2 ^ 64) : mulD (.int i) (.int j) S = .ok (.int (i * j)) S := by
  show (if CMul i j ∨ CMulW i j then R.ok (D.int (i * j)) S else .bad) = _
  rw [if_pos (.inl (.inr ⟨h1, h2⟩))]
theorem fdiv_s {i j : Int} {S : List O} (h1 : j ≠ 0) (h2 : j.natAbs < 1073741824) : fdivD (.int i) (.int j) S = .ok (.int (i.fdiv j)) S := by
  show (if CDivN i j then R.ok (D.int (i.fdiv j)) S else if CDivW i j then .ok (.int (i / j)) S else .bad) = _
  rw [if_pos ⟨h1, h2⟩]
theorem mod_s {i j : Int} {S : List O} (h1 : j ≠ 0) : modD (.int i) (.int j) S = .ok (.int (i.fmod j)) S := by
  show (if j ≠ 0 then R.ok (D.int (i.fmod j)) S else .bad) = _
  rw [if_pos h1]
@[simp] theorem int_int {i : Int} {S : List O} : intD [.int i] S = .ok (.int i) S := rfl
section
variable {a b c d e w : D} {T : List O}
@[simp] theorem h_0 : idxD (.ref 0) (.int 0) (.lst [a, b, c, d, e] :: T) = .ok a (.lst [a, b, c, d, e] :: T) := rfl
@[simp] theorem h_1 : idxD (.ref 0) (.int 1) (.lst [a, b, c, d, e] :: T) = .ok b (.lst [a, b, c, d, e] :: T) := rfl
@[simp] theorem h_2 : idxD (.ref 0) (.int 2) (.lst [a, b, c, d, e] :: T) = .ok c (.lst [a, b, c, d, e] :: T) := rfl
@[simp] theorem h_3 : idxD (.ref 0) (.int 3) (.lst [a, b, c, d, e] :: T) = .ok d (.lst [a, b, c, d, e] :: T) := rfl
@[simp] theorem h_4 : idxD (.ref 0) (.int 4) (.lst [a, b, c, d, e] :: T) = .ok e (.lst [a, b, c, d, e] :: T) := rfl
@[simp] theorem hs_1 : setD (.ref 0) (.int 1) w (.lst [a, b, c, d, e] :: T) = .ok () (.lst [a, w, c, d, e] :: T) := rfl
@[simp] theorem hs_2 : setD (.ref 0) (.int 2) w (.lst [a, b, c, d, e] :: T) = .ok () (.lst [a, b, w, d, e] :: T) := rfl
@[simp] theorem hs_3 : setD (.ref 0) (.int 3) w (.lst [a, b, c, d, e] :: T) = .ok () (.lst [a, b, c, w, e] :: T) := rfl
@[simp] theorem hs_4 : setD (.ref 0) (.int 4) w (.lst [a, b, c, d, e] :: T) = .ok () (.lst [a, b, c, d, w] :: T) := rfl
end
theorem eqS_i {neg : Bool} {i j : Int} {S : List O} : eqDS neg (.int i) (.int j) S = .ok (.bl (neg != (i == j))) S := rfl
theorem idx_ints {cs : List Int} {n : Nat} {S : List O} (h : n < cs.length) : idxD (.lst (cs.map D.int)) (.int (n : Nat)) S = .ok (.int (cs.getD n 0)) S := by
  show (match atI (cs.map D.int) (n : Int) with
    | some d => R.ok d S
    | none => .bad) = _
  rw [at_nat (by simpa using h), List.getElem_map, List.getD_eq_getElem?_getD, List.getElem?_eq_getElem h]
  rfl
@[simp] theorem pow_18 {S : List O} : powD (.int 10) (.int 18) S = .ok (.int (10 ^ 18)) S := by
  show (if CPow 10 18 then R.ok (D.int (10 ^ (18 : Int).toNat)) S else .bad) = _
  rw [if_pos (by decide)]; rfl
/-- the things of a store stay as they are but the first -/
theorem gcR_hd {o p : O} {T : List O} {d : D} (hd : clD (T.length + 1) d = true) (hp : clO (T.length + 1) p = true) : gcR (o :: T) (.ok d (p :: T)) = .ok d (p :: T) := by
  have := gcR_one (S := o :: T) (T := []) (n := 0) (o := p) (d := d) hd hp (by simp)
  simpa using this
theorem hO_cl (h : Hd) (n : Nat) : clO n (hO h) = true := by
  refine nr_clL _ ?_
  show (nrL (h.cs.map D.int) && true) = true
  rw [nrL_map fun _ => rfl]; rfl
@[simp] theorem gcR_h {h g : Hd} {T : List O} {d : D} (hd : nrD d = true) : gcR (hO h :: T) (.ok d (hO g :: T)) = .ok d (hO g :: T) := gcR_hd (nr_cl _ hd) (hO_cl g _)
theorem draw_rest {C : Orc} {L : D} {x : Option D} {i z s c : Int} {m : Nat} {T : List O} (hm : 0 < m) (hz : m < 1073741824) : evSs tl.ct C b_l_draw.tl none [some (.ref 0), some (.int (m : Nat)), none, x, none] (.lst [L, .int i, .int z, .int s, .int c] :: T) =
    .rt (.int ((if 0 < z then z else (rnd s (c + 1)).fdiv 16).fmod m)) (.lst (if 0 < z then [L, .int i, .int (z.fdiv m), .int s, .int c] else [L, .int i, .int z, .int s, .int (c + 1)]) :: T) := by
  have hm0 : (m : Int) ≠ 0 := by omega
  have hmb : (m : Int).natAbs < 1073741824 := by omega
  have n1 := fmod_b ((s + 7919 * (c + 1)) * 48271) (m := 2147483647) (by decide)
  have n2 := fmod_b (rnd1 s (c + 1) * ((rnd1 s (c + 1)).fdiv 1009 + 69621)) (m := 2147483647) (by decide)
  have m1 : ∀ j S, mulD (.int (rnd1 s (c + 1))) (.int j) S = .ok (.int (rnd1 s (c + 1) * j)) S := fun j S => mul_l (by unfold rnd1; omega) (by unfold rnd1; omega)
  have m2 : ∀ j S, mulD (.int (rnd2 (rnd1 s (c + 1)))) (.int j) S = .ok (.int (rnd2 (rnd1 s (c + 1)) * j)) S := fun j S => mul_l (by unfold rnd2; omega) (by unfold rnd2; omega)
  have r1 : ((s + 7919 * (c + 1)) * 48271).fmod 2147483647 = rnd1 s (c + 1) := rfl
  have r2 : (rnd1 s (c + 1) * ((rnd1 s (c + 1)).fdiv 1009 + 69621)).fmod 2147483647 = rnd2 (rnd1 s (c + 1)) := rfl
  have r3 : (rnd2 (rnd1 s (c + 1)) * ((rnd2 (rnd1 s (c + 1))).fdiv 2003 + 40692)).fmod 2147483399 = rnd s (c + 1) := rfl
  by_cases h : 0 < z
  · simp -dsimp [Ss.tl, b_l_draw, h, mod_s hm0, fdiv_s hm0 hmb]
  · simp -dsimp [Ss.tl, b_l_draw, h, mod_s hm0, mod_s, fdiv_s, mul_l, mul_r, m1, m2, r1, r2, r3]
/-- a draw -/
@[simp] theorem e_draw {k : Nat} (h : Hd) {m : Nat} {T : List O} (hm : 0 < m) (hz : m < 1073741824) : callD tl.ct (k + 1) F_l_draw [.ref 0, .int (m : Nat)] (hO h :: T) = .ok (.int (h.v m : Nat)) (hO (h.n m) :: T) := by
  have e1 : ∃ x, evS tl.ct (callD tl.ct k) b_l_draw.hd none [some (.ref 0), some (.int (m : Nat)), none, none, none] (hO h :: T) = .nx [some (.ref 0), some (.int (m : Nat)), none, x, none] (hO h.a :: T) := by
    by_cases hz : h.z = 0
    · by_cases hi : h.i < h.cs.length
      · have ha : h.a = { h with i := h.i + 1, s := (h.s * 69621 + h.cs.getD h.i 0 + 11).fmod 2147483629, z := if (10 : Int) ^ 18 ≤ h.cs.getD h.i 0 then h.cs.getD h.i 0 else h.z } := by unfold Hd.a; rw [if_pos ⟨hz, hi⟩]
        refine ⟨some (.int (h.cs.getD h.i 0)), ?_⟩
        rw [ha]
        by_cases hb : (1000000000000000000 : Int) ≤ h.cs[h.i]
        · simp -dsimp [Ss.hd, b_l_draw, hO, eqS_i, hz, hi, idx_ints hi, mul_r, mod_s, hb]
        · simp -dsimp [Ss.hd, b_l_draw, hO, eqS_i, hz, hi, idx_ints hi, mul_r, mod_s, hb]
      · have ha : h.a = h := by unfold Hd.a; rw [if_neg fun z => hi z.2]
        refine ⟨none, ?_⟩
        rw [ha]
        simp -dsimp [Ss.hd, b_l_draw, hO, eqS_i, hz, hi]
    · have ha : h.a = h := by unfold Hd.a; rw [if_neg fun z => hz z.1]
      refine ⟨none, ?_⟩
      rw [ha]
      simp -dsimp [Ss.hd, b_l_draw, hO, eqS_i, hz]
  obtain ⟨x, e1⟩ := e1
  rw [run_l_draw, cut, e1, fb_nx, show hO h.a = .lst [.lst (h.a.cs.map D.int), .int (h.a.i : Nat), .int h.a.z, .int h.a.s, .int h.a.c] from rfl, draw_rest hm hz, fin_rt, ← h.v_int hm]
  have : O.lst (if 0 < h.a.z then [.lst (h.a.cs.map D.int), .int (h.a.i : Nat), .int (h.a.z.fdiv m), .int h.a.s, .int h.a.c] else [.lst (h.a.cs.map D.int), .int (h.a.i : Nat), .int h.a.z, .int h.a.s, .int (h.a.c + 1)]) = hO (h.n m) := by
    unfold Hd.n
    split <;> rfl
  rw [this, gcR_h rfl]
theorem e_hand {k : Nat} {ns : List Int} (hl : ns.length ≤ 63) : callD tl.ct (k + 1) F_l_hand [.fl (ns.map D.int)] [] = .ok (.ref 0) [hO ⟨ns.map fun i => if i < 0 then -i else i, 0, 0, 1 + (ns.length : Nat), 0⟩] := by
  rw [run_l_hand]
  have hsl : sliceD (.fl (ns.map D.int)) none (some 63) [] = .ok (.lst (ns.map D.int)) [] := by
    show R.ok (D.lst (cutL (ns.map D.int) none (some ((63 : Nat) : Int)))) [] = _
    unfold cutL
    rw [HT.sIx_none, HT.sIx_nat, List.drop_zero, Nat.sub_zero, List.take_of_length_le]
    rw [List.length_map]
    omega
  simp -dsimp [b_l_hand, hsl]
  generalize hr : gcR _ (lcE _ _ _ _) = r
  have hr := lc_resV hr D.int (fun i => .int (if i < 0 then -i else i)) rfl (fun i _ T => by simp -dsimp [absD]) (by omega) (fun _ _ => rfl)
  subst hr
  simp -dsimp [nat_sz, hO, Function.comp_def]
theorem e_drawI {k : Nat} (h : Hd) (m : Nat) {i : Int} (hi : i = (m : Nat)) {T : List O} (hm : 0 < m) (hz : m < 1073741824) : callD tl.ct (k + 1) F_l_draw [.ref 0, .int i] (hO h :: T) = .ok (.int (h.v m : Nat)) (hO (h.n m) :: T) := by
  subst hi
  exact e_draw h hm hz
end LK78
end
section
set_option Elab.async false
set_option linter.all false
set_option maxRecDepth 100000
set_option maxHeartbeats 1000000
set_option autoImplicit false
namespace LK78
open PySem PySem.Spec PyProof.Rows L2 Ev
/-- a comprehension with draws that leaves some things out -/
theorem lcGo_some {α : Type} {S : List O} {n : Nat} {g : D → List O → R (Option D)} {Q : O → Prop} (e : α → D) (v : α → D) (hn : n < S.length) : ∀ {xs : List α} {acc : List D} {o : O}, Q o → (∀ x ∈ xs, ∀ o acc, Q o → ∃ o' y, g (e x) (S.set n o ++ [.lst acc]) = .ok y (S.set n o' ++ [.lst acc]) ∧ Q o' ∧ (y = none ∨ y = some (v x))) → acc.length + xs.length ≤ sizeLine →
    ∃ (o' : O) (us : List α), lcGo S.length [] g (xs.map e) (S.set n o ++ [.lst acc]) = .ok () (S.set n o' ++ [.lst (acc ++ us.map v)]) ∧ Q o' ∧ us.Sublist xs
  | [], acc, o, hq, h, hz => ⟨o, [], by
      rw [List.map_nil]
      unfold lcGo
      rw [if_pos (show gdOk _ [] from trivial), List.map_nil, List.append_nil], hq, List.Sublist.refl _⟩
  | x :: xs, acc, o, hq, h, hz => by
    obtain ⟨o1, y, e1, q1, p1⟩ := h x List.mem_cons_self o acc hq
    rcases p1 with rfl | rfl
    · obtain ⟨o2, us, e2, q2, p2⟩ := lcGo_some (xs := xs) (acc := acc) e v hn q1 (fun z hz => h z (List.mem_cons_of_mem _ hz)) (by simp at hz ⊢; omega)
      refine ⟨o2, us, ?_, q2, p2.cons _⟩
      rw [List.map_cons]
      unfold lcGo
      rw [if_pos (show gdOk _ [] from trivial), e1]
      exact e2
    · obtain ⟨o2, us, e2, q2, p2⟩ := lcGo_some (xs := xs) (acc := acc ++ [v x]) e v hn q1 (fun z hz => h z (List.mem_cons_of_mem _ hz)) (by simp at hz ⊢; omega)
      refine ⟨o2, x :: us, ?_, q2, p2.cons_cons _⟩
      rw [List.map_cons]
      unfold lcGo
      rw [if_pos (show gdOk _ [] from trivial), e1]
      dsimp only
      have h1 : (S.set n o1 ++ [O.lst acc])[S.length]? = some (.lst acc) := st_top _ _
      rw [h1]
      dsimp only
      rw [if_pos (by simp at hz; omega), st_put, e2]
      simp
theorem lcE_some {α : Type} {S : List O} {n : Nat} {o : O} {g : D → List O → R (Option D)} {its : List D} {r : R D} (hr : gcR S (lcE [] g its S) = r) {Q : O → Prop} {xs : List α} (e : α → D) (v : α → D) (hi : its = xs.map e) (hs : S[n]? = some o) (h0 : Q o) (hQ : ∀ o, Q o → clO S.length o = true) (h : ∀ x ∈ xs, ∀ o acc, Q o → ∃ o' y, g (e x) (S.set n o ++ [.lst acc]) = .ok y (S.set n o' ++ [.lst acc]) ∧ Q o' ∧ (y = none ∨ y = some (v x))) (hz : xs.length ≤ 10000) (hv : ∀ x ∈ xs, nrD (v x) = true) :
    ∃ (o' : O) (us : List α), r = .ok (.lst (us.map v)) (S.set n o') ∧ Q o' ∧ us.Sublist xs := by
  subst hr hi
  have hn := get_lt hs
  obtain ⟨o', us, e1, q1, p1⟩ := lcGo_some (acc := []) e v hn h0 h (by rw [szl]; simp; omega)
  refine ⟨o', us, ?_, q1, p1⟩
  unfold lcE
  rw [set_id hs] at e1
  rw [e1, lcR_ok, List.nil_append]
  refine gcR_lset hn (hQ _ q1) (nr_clL _ (nrL_all fun d hd => ?_))
  obtain ⟨u, hu, rfl⟩ := List.mem_map.mp hd
  exact hv u (p1.subset hu)
theorem gcR_hT {h g : Hd} {T U : List O} {d : D} (hd : nrD d = true) : gcR (hO h :: T) (.ok d (hO g :: (T ++ U))) = .ok d (hO g :: T) := by
  have := gcR_one (S := hO h :: T) (T := U) (n := 0) (o := hO g) (nr_cl _ hd) (hO_cl g _) (by simp)
  simpa using this
/-- _law_added -/
theorem e_added {k a b : Nat} (ha : a < 8) (hb : b < 8) (S : List O) : callD tl.ct (k + 1) F_l_added [.int (a : Nat), .int (b : Nat)] S = .ok (.int ((a ^^^ b : Nat) : Int)) S := by
  rw [run_l_added]
  have fd : ∀ (x y : Nat) S, 0 < y → y < 100 → fdivD (.int (x : Nat)) (.int (y : Nat)) S = .ok (.int ((x / y : Nat) : Int)) S := fun x y S h1 h2 => by
    rw [fdiv_s (by omega) (by omega), Int.fdiv_eq_ediv_of_nonneg _ (by omega)]; rfl
  have md : ∀ (x : Nat) S, modD (.int (x : Nat)) (.int 2) S = .ok (.int ((x % 2 : Nat) : Int)) S := fun x S => by
    rw [mod_s (by decide), Int.fmod_eq_emod_of_nonneg _ (by decide)]; rfl
  have hx : a ^^^ b = (if a % 2 = b % 2 then 0 else 1) + (if a / 2 % 2 = b / 2 % 2 then 0 else 2) + (if a / 4 % 2 = b / 4 % 2 then 0 else 4) := by
    have : ∀ a, a < 8 → ∀ b, b < 8 → a ^^^ b = (if a % 2 = b % 2 then 0 else 1) + (if a / 2 % 2 = b / 2 % 2 then 0 else 2) + (if a / 4 % 2 = b / 4 % 2 then 0 else 4) := by decide +kernel
    exact this a ha b hb
  rw [hx]
  have tr : ∀ x : Nat, ∃ q2 q4 r1 r2 r4 : Nat, (∀ S, fdivD (.int (x : Nat)) (.int 1) S = .ok (.int (x : Nat)) S) ∧ (∀ S, fdivD (.int (x : Nat)) (.int 2) S = .ok (.int (q2 : Nat)) S) ∧ (∀ S, fdivD (.int (x : Nat)) (.int 4) S = .ok (.int (q4 : Nat)) S) ∧ (∀ S, modD (.int (x : Nat)) (.int 2) S = .ok (.int (r1 : Nat)) S) ∧ (∀ S, modD (.int (q2 : Nat)) (.int 2) S = .ok (.int (r2 : Nat)) S) ∧ (∀ S, modD (.int (q4 : Nat)) (.int 2) S = .ok (.int (r4 : Nat)) S) ∧ x % 2 = r1 ∧ x / 2 % 2 = r2 ∧ x / 4 % 2 = r4 := fun x =>
    ⟨_, _, _, _, _, fun S => by
      have := fd x 1 S (by decide) (by decide)
      rwa [Nat.div_one] at this, fun S => fd x 2 S (by decide) (by decide), fun S => fd x 4 S (by decide) (by decide), fun S => md x S, fun S => md _ S, fun S => md _ S, rfl, rfl, rfl⟩
  obtain ⟨q2, q4, r1, r2, r4, t1, t2, t3, t4, t5, t6, h1, h2, h4⟩ := tr a
  obtain ⟨p2, p4, s1, s2, s4, u1, u2, u3, u4, u5, u6, g1, g2, g4⟩ := tr b
  rw [h1, h2, h4, g1, g2, g4]
  have ne : ∀ (x y : Nat) S, eqDS true (.int (x : Nat)) (.int (y : Nat)) S = .ok (.bl (decide (x ≠ y))) S := fun x y S => by
    rw [eqS_i]
    by_cases h : x = y
    · subst h; simp
    · have : ¬ (x : Int) = y := by omega
      simp [h, this]
  by_cases c1 : r1 = s1 <;> by_cases c2 : r2 = s2 <;> by_cases c4 : r4 = s4 <;>
    simp -dsimp [nat_sz, b_l_added, t1, t2, t3, t4, t5, t6, u1, u2, u3, u4, u5, u6, ne, c1, c2, c4]
theorem leD_int (a b : Int) : leD (.int a) (.int b) = decide (a ≤ b) := by
  show (!lexLt itemOrd [Sum.inl b] [Sum.inl a]) = _
  rw [lex_cons]
  show (!(decide (b < a) || (!decide (a < b) && false))) = _
  rw [Bool.and_false, Bool.or_false, Bool.eq_iff_iff]
  simp
theorem srt_nats {xs : List Nat} : srtB (xs.map fun p => D.int (p : Nat)) = true := by
  refine srt_of (fun d hd => ?_) (fun d hd e he => ?_) (.inr (.inl fun d hd => ?_))
  · obtain ⟨p, hp, rfl⟩ := List.mem_map.mp hd; rfl
  · obtain ⟨p, _, rfl⟩ := List.mem_map.mp hd
    obtain ⟨q, _, rfl⟩ := List.mem_map.mp he
    rfl
  · obtain ⟨p, _, rfl⟩ := List.mem_map.mp hd; rfl
def srtN (xs : List Nat) : List Nat := xs.mergeSort fun a b => leD (.int (a : Nat)) (.int (b : Nat))
theorem srtN_mem {xs : List Nat} {x : Nat} : x ∈ srtN xs ↔ x ∈ xs := (List.mergeSort_perm xs _).mem_iff
theorem srtN_asc {xs : List Nat} (h : xs.Nodup) : (srtN xs).Pairwise (· < ·) := by
  have h1 : (srtN xs).Pairwise fun a b => leD (.int (a : Nat)) (.int (b : Nat)) = true := sort_map_pw (fun a : Nat => D.int (a : Nat)) xs
  have h2 : (srtN xs).Nodup := (List.mergeSort_perm xs _).nodup_iff.mpr h
  refine (List.pairwise_and_iff.mpr ⟨h1, h2⟩).imp fun {a b} hab => ?_
  have := hab.1
  rw [leD_int] at this
  have := of_decide_eq_true this
  have := hab.2
  omega
theorem sorted_nats {xs : List Nat} {S : List O} (h : xs.length ≤ 100000) : sortedD [.lst (xs.map fun p => D.int (p : Nat))] S = .ok (.lst ((srtN xs).map fun p => D.int (p : Nat))) S := srt_map (f := fun p : Nat => D.int (p : Nat)) srt_nats h
section
variable {T : List O} {o : O} {ds : List D} {w : D}
theorem app_h (h : ds.length ≤ 100000) : methD .append (.ref (T.length + 1)) [w] (o :: (T ++ [.lst ds])) = .ok .non (o :: (T ++ [.lst (ds ++ [w])])) := by
  rw [app_lst (ds := ds) (by simp) h]
  simp
theorem at_h : MT.at .append (o :: (T ++ [.lst ds])) (.ref (T.length + 1)) = true := at_app (ds := ds) (by simp)
theorem tup_h : tupleD [.ref (T.length + 1)] (o :: (T ++ [O.lst ds])) = .ok (.tup ds) (o :: (T ++ [O.lst ds])) := by
  have : rdL (o :: (T ++ [O.lst ds])) (.ref (T.length + 1)) = some ds := by simp [rdL, Ev.listOf]
  simp [tupleD, this]
end
def mvP (p : Nat × Nat) : D := .tup [.int (p.1 : Nat), .int (p.2 : Nat)]
theorem xor_lt {B a b : Nat} (ha : a < 2 ^ B) (hb : b < 2 ^ B) : a ^^^ b < 2 ^ B := Nat.xor_lt_two_pow ha hb
/-- ends that are closed under sums of three -/
structure Cos (N : Nat) (es : List Nat) : Prop where
  lt : ∀ e ∈ es, e < N
  nd : es.Nodup
  cl : ∀ a ∈ es, ∀ b ∈ es, ∀ c ∈ es, a ^^^ b ^^^ c ∈ es
  ne : es ≠ []
theorem xor_c (a b c : Nat) : a ^^^ b ^^^ c = a ^^^ c ^^^ b := by rw [Nat.xor_assoc, Nat.xor_comm b c, ← Nat.xor_assoc]
theorem xor_l (a b c : Nat) : a ^^^ (b ^^^ c) = b ^^^ (a ^^^ c) := by rw [← Nat.xor_assoc, Nat.xor_comm a b, Nat.xor_assoc]
theorem xor_k (a s : Nat) : a ^^^ s ^^^ s = a := by rw [Nat.xor_assoc, Nat.xor_self, Nat.xor_zero]
theorem Cos.add {B : Nat} {es : List Nat} (h : Cos (2 ^ B) es) {s : Nat} (hs : s < 2 ^ B) {e0 : Nat} (h0 : e0 ∈ es) (hn : e0 ^^^ s ∉ es) : Cos (2 ^ B) (es ++ es.map fun e => e ^^^ s) := by
  have hk : ∀ a ∈ es, a ^^^ s ∉ es := fun a ha hm => hn (by
    have := h.cl _ h0 _ ha _ hm
    rwa [show e0 ^^^ a ^^^ (a ^^^ s) = e0 ^^^ s by rw [← Nat.xor_assoc, xor_k]] at this)
  refine ⟨fun e he => ?_, ?_, ?_, by simp [h.ne]⟩
  · rcases List.mem_append.mp he with he | he
    · exact h.lt e he
    · obtain ⟨x, hx, rfl⟩ := List.mem_map.mp he
      exact xor_lt (h.lt x hx) hs
  · rw [List.nodup_append]
    refine ⟨h.nd, ?_, ?_⟩
    · refine (List.pairwise_map.mpr (h.nd.imp fun {a b} hab he => hab ?_))
      have := congrArg (· ^^^ s) he
      simpa [xor_k] using this
    · intro a ha b hb
      obtain ⟨x, hx, rfl⟩ := List.mem_map.mp hb
      rintro rfl
      exact hk x hx ha
  · have key : ∀ a ∈ es ++ es.map (fun e => e ^^^ s), ∃ x ∈ es, ∃ t, (t = 0 ∨ t = s) ∧ a = x ^^^ t := fun a ha => by
      rcases List.mem_append.mp ha with ha | ha
      · exact ⟨a, ha, 0, .inl rfl, by rw [Nat.xor_zero]⟩
      · obtain ⟨x, hx, rfl⟩ := List.mem_map.mp ha
        exact ⟨x, hx, s, .inr rfl, rfl⟩
    intro a ha b hb c hc
    obtain ⟨x, hx, t, ht, rfl⟩ := key a ha
    obtain ⟨y, hy, u, hu, rfl⟩ := key b hb
    obtain ⟨z, hz, v, hv, rfl⟩ := key c hc
    have hm := h.cl x hx y hy z hz
    have e : x ^^^ t ^^^ (y ^^^ u) ^^^ (z ^^^ v) = x ^^^ y ^^^ z ^^^ (t ^^^ u ^^^ v) := by
      simp only [Nat.xor_assoc, Nat.xor_comm, xor_l]
    rw [e]
    have : t ^^^ u ^^^ v = 0 ∨ t ^^^ u ^^^ v = s := by
      rcases ht with rfl | rfl <;> rcases hu with rfl | rfl <;> rcases hv with rfl | rfl <;> simp [xor_k]
    rcases this with h0 | h0
    · rw [h0, Nat.xor_zero]; exact List.mem_append_left _ hm
    · rw [h0]; exact List.mem_append_right _ (List.mem_map.mpr ⟨_, hm, rfl⟩)
end LK78
end
section
set_option Elab.async false
set_option linter.all false
set_option maxRecDepth 100000
set_option maxHeartbeats 1000000
set_option autoImplicit false
namespace LK78
open PySem PySem.Spec PyProof.Rows L2 Ev
@[simp] theorem idx_l20 {a b : D} {S : List O} : idxD (.lst [a, b]) (.int 0) S = .ok a S := rfl
@[simp] theorem idx_l21 {a b : D} {S : List O} : idxD (.lst [a, b]) (.int 1) S = .ok b S := rfl
theorem ints_of {ys : List D} {N : Nat} (h : ∀ y ∈ ys, ∃ c : Nat, c < N ∧ y = .int (c : Nat)) : ∃ cs : List Nat, ys = cs.map (fun c => D.int (c : Nat)) ∧ ∀ c ∈ cs, c < N := by
  induction ys with
  | nil => exact ⟨[], rfl, by simp⟩
  | cons y ys ih =>
    obtain ⟨cs, rfl, h1⟩ := ih fun z hz => h z (List.mem_cons_of_mem _ hz)
    obtain ⟨c, hc, rfl⟩ := h y List.mem_cons_self
    exact ⟨c :: cs, rfl, fun d hd => by
      rcases List.mem_cons.mp hd with rfl | hd
      · exact hc
      · exact h1 d hd⟩
theorem zip_all {α β : Type} {xs : List α} {ys : List β} {Q : β → Prop} (hl : ys.length = xs.length) (h : ∀ p ∈ xs.zip ys, Q p.2) : ∀ y ∈ ys, Q y := fun y hy => by
  obtain ⟨i, hi, rfl⟩ := List.mem_iff_getElem.mp hy
  refine h (xs[i]'(by omega), ys[i]) ?_
  rw [List.mem_iff_getElem]
  exact ⟨i, by simp; omega, by simp⟩
def bmB : Ss := b_l_bits_machine
def bmI : Ss := bmB.tl.tl.tl.tl.tl.hd.body
/-- the head: bits, states, images, steps, a list for the moves -/
theorem bm_head {k : Nat} (h : Hd) (T : List O) : ∃ (B : Nat) (im : List Nat) (s0 s1 : Nat) (g : Hd), 1 ≤ B ∧ B ≤ 3 ∧ im.length = B ∧ (∀ i ∈ im, i < 2 ^ B) ∧ s0 < 2 ^ B ∧ s1 < 2 ^ B ∧
    evSs tl.ct (callD tl.ct (k + 1)) bmB none [some (.ref 0), none, none, none, none, none, none, none, none, none, none, none, none] (hO h :: T) =
    evSs tl.ct (callD tl.ct (k + 1)) bmB.tl.tl.tl.tl.tl none [some (.ref 0), some (.int (B : Nat)), some (.int ((2 ^ B : Nat) : Int)), some (.lst (im.map fun c => .int (c : Nat))), some (.lst [.int (s0 : Nat), .int (s1 : Nat)]), some (.ref (T.length + 1)), none, none, none, none, none, none, none] (hO g :: (T ++ [O.lst []])) := by
  have e1 := e_drawI (k := k) h 3 (i := 3) rfl (T := T) (by decide) (by decide)
  have v1 := h.v_lt (m := 3) (by decide)
  obtain ⟨B, hB⟩ : ∃ B, B = 1 + h.v 3 := ⟨_, rfl⟩
  have p1 : evS tl.ct (callD tl.ct (k + 1)) bmB.hd none [some (.ref 0), none, none, none, none, none, none, none, none, none, none, none, none] (hO h :: T) = .nx [some (.ref 0), some (.int (B : Nat)), none, none, none, none, none, none, none, none, none, none, none] (hO (h.n 3) :: T) := by
    simp -dsimp [Ss.hd, bmB, b_l_bits_machine, e1, hB]
  have hB1 : 1 ≤ B := by omega
  have hB3 : B ≤ 3 := by omega
  clear hB
  generalize h.n 3 = h2 at p1
  obtain ⟨N, hN⟩ : ∃ N, N = 2 ^ B := ⟨_, rfl⟩
  have hix : ∀ S, idxD (.lst [.int 2, .int 4, .int 8]) (.int ((B : Int) - 1)) S = .ok (.int (N : Nat)) S := fun S => by
    rw [hN]
    match B, hB1, hB3 with
    | 1, _, _ => rfl
    | 2, _, _ => rfl
    | 3, _, _ => rfl
  have hN1 : 0 < N := by rw [hN]; exact Nat.two_pow_pos B
  have hN8 : N ≤ 8 := by rw [hN]; exact Nat.pow_le_pow_right (n := 2) (by decide) hB3
  have p2 : evS tl.ct (callD tl.ct (k + 1)) bmB.tl.hd none [some (.ref 0), some (.int (B : Nat)), none, none, none, none, none, none, none, none, none, none, none] (hO h2 :: T) = .nx [some (.ref 0), some (.int (B : Nat)), some (.int (N : Nat)), none, none, none, none, none, none, none, none, none, none] (hO h2 :: T) := by
    simp -dsimp [Ss.hd, Ss.tl, bmB, b_l_bits_machine, nat_sz, hix]
  have p3 : ∃ (im : List Nat) (h3 : Hd), im.length = B ∧ (∀ i ∈ im, i < N) ∧ evS tl.ct (callD tl.ct (k + 1)) bmB.tl.tl.hd none [some (.ref 0), some (.int (B : Nat)), some (.int (N : Nat)), none, none, none, none, none, none, none, none, none, none] (hO h2 :: T) = .nx [some (.ref 0), some (.int (B : Nat)), some (.int (N : Nat)), some (.lst (im.map fun c => .int (c : Nat))), none, none, none, none, none, none, none, none, none] (hO h3 :: T) := by
    simp -dsimp [Ss.hd, Ss.tl, bmB, b_l_bits_machine, rng_0 (n := B) (by omega)]
    generalize hr : gcR _ (lcE _ _ _ _) = r
    obtain ⟨o, ys, rfl, ⟨h', rfl⟩, hyl, hy⟩ := lcE_resP hr (n := 0) (o := hO h2) (Q := fun o => ∃ h, o = hO h) (fun i : Nat => D.int (i : Nat)) (fun _ y => ∃ c : Nat, c < N ∧ y = .int (c : Nat)) rfl rfl ⟨h2, rfl⟩ (by rintro o ⟨h, rfl⟩; exact hO_cl h _) (by
      rintro i hi o acc ⟨g, rfl⟩
      refine ⟨hO (g.n N), .int (g.v N : Nat), ?_, ⟨_, rfl⟩, _, g.v_lt hN1, rfl⟩
      simp -dsimp [e_draw g hN1 (show N < 1073741824 by omega)]) (by simp; omega) (by rintro x _ y ⟨c, _, rfl⟩; rfl)
    obtain ⟨im, rfl, him⟩ := ints_of (zip_all (Q := fun y => ∃ c : Nat, c < N ∧ y = .int (c : Nat)) hyl hy)
    refine ⟨im, by simpa using hyl, him, h', ?_⟩
    simp -dsimp
  obtain ⟨im, h3, l3, m3, p3⟩ := p3
  have p4 : evS tl.ct (callD tl.ct (k + 1)) bmB.tl.tl.tl.hd none [some (.ref 0), some (.int (B : Nat)), some (.int (N : Nat)), some (.lst (im.map fun c => .int (c : Nat))), none, none, none, none, none, none, none, none, none] (hO h3 :: T) = .nx [some (.ref 0), some (.int (B : Nat)), some (.int (N : Nat)), some (.lst (im.map fun c => .int (c : Nat))), some (.lst [.int (h3.v N : Nat), .int ((h3.n N).v N : Nat)]), none, none, none, none, none, none, none, none] (hO ((h3.n N).n N) :: T) := by
    simp -dsimp [Ss.hd, Ss.tl, bmB, b_l_bits_machine, nat_sz, e_draw (k := k) h3 (T := T) hN1 (show N < 1073741824 by omega), e_draw (k := k) (h3.n N) (T := T) hN1 (show N < 1073741824 by omega)]
  refine ⟨B, im, h3.v N, (h3.n N).v N, (h3.n N).n N, hB1, hB3, l3, by rw [← hN]; exact m3, by rw [← hN]; exact h3.v_lt hN1, by rw [← hN]; exact (h3.n N).v_lt hN1, ?_⟩
  rw [← hN, cut, p1, fb_nx, cut, p2, fb_nx, cut, p3, fb_nx, cut, p4, fb_nx, cut, show ∀ S, evS tl.ct (callD tl.ct (k + 1)) bmB.tl.tl.tl.tl.hd none [some (.ref 0), some (.int (B : Nat)), some (.int (N : Nat)), some (.lst (im.map fun c => .int (c : Nat))), some (.lst [.int (h3.v N : Nat), .int ((h3.n N).v N : Nat)]), none, none, none, none, none, none, none, none] (hO S :: T) = .nx [some (.ref 0), some (.int (B : Nat)), some (.int (N : Nat)), some (.lst (im.map fun c => .int (c : Nat))), some (.lst [.int (h3.v N : Nat), .int ((h3.n N).v N : Nat)]), some (.ref (T.length + 1)), none, none, none, none, none, none, none] (hO S :: (T ++ [O.lst []])) from fun S => by simp -dsimp [Ss.hd, Ss.tl, bmB, b_l_bits_machine, nat_sz], fb_nx]
/-- a state's moves -/
theorem bm_turn {k B s : Nat} {im : List Nat} {s0 s1 : Nat} {h : Hd} {T : List O} {acc : List D} {x6 x9 x10 : Option D} (hB1 : 1 ≤ B) (hB3 : B ≤ 3) (him : im.length = B) (hi : ∀ i ∈ im, i < 2 ^ B) (h0 : s0 < 2 ^ B) (h1 : s1 < 2 ^ B) (hacc : acc.length ≤ 1000) :
    ∃ (p : Nat × Nat) (y9 y10 : Option D), p.1 < 2 ^ B ∧ p.2 < 2 ^ B ∧ evSs tl.ct (callD tl.ct (k + 1)) bmI none [some (.ref 0), some (.int (B : Nat)), some (.int ((2 ^ B : Nat) : Int)), some (.lst (im.map fun c => .int (c : Nat))), some (.lst [.int (s0 : Nat), .int (s1 : Nat)]), some (.ref (T.length + 1)), some (.int (s : Nat)), none, none, x9, x10, none, none] (hO h :: (T ++ [O.lst acc])) =
      .nx [some (.ref 0), some (.int (B : Nat)), some (.int ((2 ^ B : Nat) : Int)), some (.lst (im.map fun c => .int (c : Nat))), some (.lst [.int (s0 : Nat), .int (s1 : Nat)]), some (.ref (T.length + 1)), some (.int (s : Nat)), none, none, y9, y10, none, none] (hO h :: (T ++ [O.lst (acc ++ [mvP p])])) := by
  obtain ⟨N, hN⟩ : ∃ N, N = 2 ^ B := ⟨_, rfl⟩
  have hN8 : N ≤ 8 := by rw [hN]; exact Nat.pow_le_pow_right (n := 2) (by decide) hB3
  have hN1 : 0 < N := by rw [hN]; exact Nat.two_pow_pos B
  have xl : ∀ {a b}, a < N → b < N → a ^^^ b < N := fun {a b} ha hb => by rw [hN] at ha hb ⊢; exact xor_lt ha hb
  rw [← hN] at hi h0 h1 ⊢
  generalize hU : hO h :: (T ++ [O.lst acc]) = U
  rw [cut, show evS tl.ct (callD tl.ct (k + 1)) bmI.hd none [some (.ref 0), some (.int (B : Nat)), some (.int (N : Nat)), some (.lst (im.map fun c => .int (c : Nat))), some (.lst [.int (s0 : Nat), .int (s1 : Nat)]), some (.ref (T.length + 1)), some (.int (s : Nat)), none, none, x9, x10, none, none] U = .nx [some (.ref 0), some (.int (B : Nat)), some (.int (N : Nat)), some (.lst (im.map fun c => .int (c : Nat))), some (.lst [.int (s0 : Nat), .int (s1 : Nat)]), some (.ref (T.length + 1)), some (.int (s : Nat)), none, none, some (.int ((0 : Nat) : Int)), x10, none, none] U by
    simp -dsimp [Ss.hd, Ss.tl, Ev.S.body, bmI, bmB, b_l_bits_machine], fb_nx, cut]
  have hrg := rng_0 (n := B) (S := U) (by omega)
  have hfor : evS tl.ct (callD tl.ct (k + 1)) bmI.tl.hd none [some (.ref 0), some (.int (B : Nat)), some (.int (N : Nat)), some (.lst (im.map fun c => .int (c : Nat))), some (.lst [.int (s0 : Nat), .int (s1 : Nat)]), some (.ref (T.length + 1)), some (.int (s : Nat)), none, none, some (.int ((0 : Nat) : Int)), x10, none, none] U = frGo [] (.nm 10) (fun ρ S => evSs tl.ct (callD tl.ct (k + 1)) bmI.tl.hd.body none ρ S) ((List.range B).map fun i => D.int (i : Nat)) [some (.ref 0), some (.int (B : Nat)), some (.int (N : Nat)), some (.lst (im.map fun c => .int (c : Nat))), some (.lst [.int (s0 : Nat), .int (s1 : Nat)]), some (.ref (T.length + 1)), some (.int (s : Nat)), none, none, some (.int ((0 : Nat) : Int)), x10, none, none] U := by
    simp -dsimp only [Ss.hd, Ss.tl, Ev.S.body, bmI, bmB, b_l_bits_machine, v_fr, wi_rng, w_var, List.getElem?_cons_zero, List.getElem?_cons_succ, R.bind_ok, hid_ap, hrg, fl_ok]
    rfl
  rw [hfor]
  obtain ⟨J, hJ⟩ := shut (fun (_ : Nat) (ρ : Env') (S : List O) => S = U ∧ ∃ (b : Nat) (x : Option D), b < N ∧ ρ = [some (.ref 0), some (.int (B : Nat)), some (.int (N : Nat)), some (.lst (im.map fun c => .int (c : Nat))), some (.lst [.int (s0 : Nat), .int (s1 : Nat)]), some (.ref (T.length + 1)), some (.int (s : Nat)), none, none, some (.int (b : Nat)), x, none, none])
  have hloop := fr_N (gd := []) (b := fun ρ S => evSs tl.ct (callD tl.ct (k + 1)) bmI.tl.hd.body none ρ S) (t := .nm 10) (fun i : Nat => D.int (i : Nat)) J (fun z _ => z) (fun _ _ _ _ => trivial) (xs := List.range B) (z := 0) (ρ := [some (.ref 0), some (.int (B : Nat)), some (.int (N : Nat)), some (.lst (im.map fun c => .int (c : Nat))), some (.lst [.int (s0 : Nat), .int (s1 : Nat)]), some (.ref (T.length + 1)), some (.int (s : Nat)), none, none, some (.int ((0 : Nat) : Int)), x10, none, none]) (S := U) (by rw [hJ]; exact ⟨rfl, 0, _, hN1, rfl⟩) (by
    intro ys i zs he ρ S hh
    have hi2 := range_at he
    rw [hJ] at hh
    obtain ⟨rfl, b, x, hb, rfl⟩ := hh
    refine ⟨_, rfl, ?_⟩
    simp only [List.set_cons_succ, List.set_cons_zero]
    obtain ⟨w, hw1, hw2, e1⟩ : ∃ w : Nat, 0 < w ∧ w < 100 ∧ ∀ S, idxD (.lst [.int 1, .int 2, .int 4]) (.int (i : Nat)) S = .ok (.int (w : Nat)) S := by
      have : i = 0 ∨ i = 1 ∨ i = 2 := by omega
      rcases this with h | h | h <;> rw [h]
      · exact ⟨1, by decide, by decide, fun _ => rfl⟩
      · exact ⟨2, by decide, by decide, fun _ => rfl⟩
      · exact ⟨4, by decide, by decide, fun _ => rfl⟩
    obtain ⟨q, e2⟩ : ∃ q : Nat, ∀ S, fdivD (.int (s : Nat)) (.int (w : Nat)) S = .ok (.int (q : Nat)) S := ⟨s / w, fun S => by
      rw [fdiv_s (by omega) (by omega), Int.fdiv_eq_ediv_of_nonneg _ (by omega)]; rfl⟩
    obtain ⟨r, e3⟩ : ∃ r : Nat, ∀ S, modD (.int (q : Nat)) (.int 2) S = .ok (.int (r : Nat)) S := ⟨q % 2, fun S => by
      rw [mod_s (by decide), Int.fmod_eq_emod_of_nonneg _ (by decide)]; rfl⟩
    have hil : i < im.length := by omega
    have e4 : ∀ S, idxD (.lst (im.map fun c => D.int (c : Nat))) (.int (i : Nat)) S = .ok (.int (im[i] : Nat)) S := fun S => by
      have := idx_nat (ds := im.map fun c => D.int (c : Nat)) (n := i) (by simpa using hil) (S := S)
      simpa using this
    have hm := hi _ (List.getElem_mem hil)
    have e5 := fun S => e_added (k := k) (a := b) (b := im[i]) (by omega) (by omega) S
    by_cases hr : (r : Int) = 1
    · simp -dsimp [Ss.hd, Ss.tl, Ev.S.body, bmI, bmB, b_l_bits_machine, nat_sz, e1, e2, e3, e4, e5, eqS_i, hr]
      refine Nx.mk ?_
      rw [hJ]
      exact ⟨rfl, _, _, xl hb hm, rfl⟩
    · simp -dsimp [Ss.hd, Ss.tl, Ev.S.body, bmI, bmB, b_l_bits_machine, nat_sz, e1, e2, e3, eqS_i, hr]
      refine Nx.mk ?_
      rw [hJ]
      exact ⟨rfl, _, _, hb, rfl⟩)
  obtain ⟨ρ2, S2, e2, hj2⟩ := hloop
  rw [hJ] at hj2
  obtain ⟨rfl, b, x, hb, rfl⟩ := hj2
  rw [e2, fb_nx]
  refine ⟨(b ^^^ s0, b ^^^ s1), some (.int (b : Nat)), x, xl hb h0, xl hb h1, ?_⟩
  subst hU
  simp -dsimp [Ss.hd, Ss.tl, Ev.S.body, bmI, bmB, b_l_bits_machine, nat_sz, e_added (k := k) (a := b) (b := s0) (by omega) (by omega), e_added (k := k) (a := b) (b := s1) (by omega) (by omega), app_h (T := T) (o := hO h) (ds := acc) (by omega), at_h, mvP]
def bmR : Ss := bmB.tl.tl.tl.tl.tl.tl
def bmJ : Ss := bmR.tl.hd.body
theorem natL_len {es : List Nat} {S : List O} : lenD [natL es] S = .ok (.int (es.length : Nat)) S := by
  show R.ok (D.int ((es.map _).length : Nat)) S = _
  rw [List.length_map]
/-- a turn of the ends -/
theorem bm_ends {k B : Nat} {es : List Nat} {a3 a4 a5 a6 a8 a9 a10 a11 a12 : Option D} {h : Hd} {U : List O} (hB3 : B ≤ 3) (hc : Cos (2 ^ B) es) (hl : es.length ≤ 1000) :
    ∃ (fs : List Nat) (g : Hd) (b6 b11 b12 : Option D), Cos (2 ^ B) fs ∧ fs.length ≤ 2 * es.length ∧ evSs tl.ct (callD tl.ct (k + 1)) bmJ none [some (.ref 0), some (.int (B : Nat)), some (.int ((2 ^ B : Nat) : Int)), a3, a4, a5, a6, some (natL es), a8, a9, a10, a11, a12] (hO h :: U) =
      .nx [some (.ref 0), some (.int (B : Nat)), some (.int ((2 ^ B : Nat) : Int)), a3, a4, a5, b6, some (natL fs), a8, a9, a10, b11, b12] (hO g :: U) := by
  obtain ⟨N, hN⟩ : ∃ N, N = 2 ^ B := ⟨_, rfl⟩
  have hN8 : N ≤ 8 := by rw [hN]; exact Nat.pow_le_pow_right (n := 2) (by decide) hB3
  have hN1 : 0 < N := by rw [hN]; exact Nat.two_pow_pos B
  have hv : h.v N < 2 ^ B := by rw [← hN]; exact h.v_lt hN1
  have hadd := fun e0 h0 => hc.add hv (e0 := e0) h0
  rw [← hN] at hv ⊢
  have hlt := hc.lt
  rw [← hN] at hlt
  obtain ⟨s, hs⟩ : ∃ s, s = h.v N := ⟨_, rfl⟩
  have e1 := e_draw (k := k) h (T := U) hN1 (show N < 1073741824 by omega)
  rw [← hs] at hadd hv e1
  rw [cut, show evS tl.ct (callD tl.ct (k + 1)) bmJ.hd none [some (.ref 0), some (.int (B : Nat)), some (.int (N : Nat)), a3, a4, a5, a6, some (natL es), a8, a9, a10, a11, a12] (hO h :: U) = .nx [some (.ref 0), some (.int (B : Nat)), some (.int (N : Nat)), a3, a4, a5, a6, some (natL es), a8, a9, a10, some (.int (s : Nat)), a12] (hO (h.n N) :: U) by
    simp -dsimp [Ss.hd, Ss.tl, Ev.S.body, bmJ, bmR, bmB, b_l_bits_machine, e1], fb_nx]
  generalize h.n N = h2
  obtain ⟨e0, er, hes⟩ := List.exists_cons_of_ne_nil hc.ne
  have hsrc : ∀ S, srcOf S (natL es) = some ⟨es.map fun p => .int (p : Nat), []⟩ := fun S => rfl
  have p1 : ∃ b6, evS tl.ct (callD tl.ct (k + 1)) bmJ.tl.hd none [some (.ref 0), some (.int (B : Nat)), some (.int (N : Nat)), a3, a4, a5, a6, some (natL es), a8, a9, a10, some (.int (s : Nat)), a12] (hO h2 :: U) = .nx [some (.ref 0), some (.int (B : Nat)), some (.int (N : Nat)), a3, a4, a5, b6, some (natL es), a8, a9, a10, some (.int (s : Nat)), some (natL (es.map fun e => e ^^^ s))] (hO h2 :: U) := by
    refine ⟨?_, ?_⟩
    rotate_left
    · simp -dsimp [Ss.hd, Ss.tl, Ev.S.body, bmJ, bmR, bmB, b_l_bits_machine, hsrc]
      generalize hr : gcR _ (lcE _ _ _ _) = r
      have hr := lc_resV hr (fun e : Nat => D.int (e : Nat)) (fun e => D.int ((e ^^^ s : Nat) : Int)) rfl (fun e he T => by
        have := hlt e he
        simp -dsimp [e_added (k := k) (a := e) (b := s) (by omega) (by omega)]) (by omega) (fun _ _ => rfl)
      subst hr
      simp -dsimp [natL, Function.comp_def]
      rfl
  obtain ⟨b6, p1⟩ := p1
  rw [cut, p1, fb_nx]
  have i0 : ∀ S, idxD (natL (es.map fun e => e ^^^ s)) (.int 0) S = .ok (.int ((e0 ^^^ s : Nat) : Int)) S := fun S => by
    rw [hes]
    exact idx_nat (n := 0) (by simp)
  have hin : ∀ (p : Nat) S, inDS true (.int (p : Nat)) (natL es) S = .ok (.bl (!decide (p ∈ es))) S := fun p S => by
    unfold natL
    rw [in_lstI]
    simp
  by_cases hm : e0 ^^^ s ∈ es
  · refine ⟨es, h2, b6, some (.int (s : Nat)), some (natL (es.map fun e => e ^^^ s)), by rw [hN]; exact hc, by omega, ?_⟩
    simp -dsimp [Ss.hd, Ss.tl, Ev.S.body, bmJ, bmR, bmB, b_l_bits_machine, i0, hin, hm]
  · refine ⟨es ++ es.map fun e => e ^^^ s, h2, b6, some (.int (s : Nat)), some (natL (es.map fun e => e ^^^ s)), by rw [hN]; exact hadd e0 (by rw [hes]; simp) hm, by simp; omega, ?_⟩
    have ha : ∀ S, addD (natL es) (natL (es.map fun e => e ^^^ s)) S = .ok (natL (es ++ es.map fun e => e ^^^ s)) S := fun S => by
      unfold natL
      rw [add_lst (by simp; omega), List.map_append]
    simp -dsimp [Ss.hd, Ss.tl, Ev.S.body, bmJ, bmR, bmB, b_l_bits_machine, i0, hin, hm, ha]
/-- _law_bits_machine -/
theorem e_bits_machine {k : Nat} (h : Hd) (T : List O) : ∃ (M : Mc) (g : Hd), M.ok ∧ callD tl.ct (k + 2) F_l_bits_machine [.ref 0] (hO h :: T) = .ok (.tup [mvD M.mv, tupI M.en]) (hO g :: T) := by
  obtain ⟨B, im, s0, s1, h2, hB1, hB3, him, hi, hs0, hs1, p0⟩ := bm_head (k := k) h T
  obtain ⟨N, hN⟩ : ∃ N, N = 2 ^ B := ⟨_, rfl⟩
  have hN8 : N ≤ 8 := by rw [hN]; exact Nat.pow_le_pow_right (n := 2) (by decide) hB3
  have hN1 : 0 < N := by rw [hN]; exact Nat.two_pow_pos B
  obtain ⟨pr, hpr⟩ : ∃ pr : List (Option D), pr = [some (.ref 0), some (.int (B : Nat)), some (.int ((2 ^ B : Nat) : Int)), some (.lst (im.map fun c => .int (c : Nat))), some (.lst [.int (s0 : Nat), .int (s1 : Nat)]), some (.ref (T.length + 1))] := ⟨_, rfl⟩
  have hrg : ∀ S, rngS (.int 0) (.int ((2 ^ B : Nat) : Int)) S = .ok ⟨(List.range N).map fun i => D.int (i : Nat), []⟩ S := fun S => by rw [← hN]; exact rng_0 (n := N) (by omega)
  have hfor : ∀ S, evS tl.ct (callD tl.ct (k + 1)) bmB.tl.tl.tl.tl.tl.hd none (pr ++ [none, none, none, none, none, none, none]) S = frGo [] (.nm 6) (fun ρ S => evSs tl.ct (callD tl.ct (k + 1)) bmI none ρ S) ((List.range N).map fun i => D.int (i : Nat)) (pr ++ [none, none, none, none, none, none, none]) S := fun S => by
    rw [hpr]
    simp -dsimp only [List.cons_append, List.nil_append, Ss.hd, Ss.tl, Ev.S.body, bmI, bmB, b_l_bits_machine, v_fr, wi_rng, w_var, List.getElem?_cons_zero, List.getElem?_cons_succ, R.bind_ok, hid_ap, hrg, fl_ok]
    rfl
  obtain ⟨J, hJ⟩ := shut (fun (z : Nat) (ρ : Env') (S : List O) => ∃ (mv : List (Nat × Nat)) (x6 x9 x10 : Option D), mv.length = z ∧ (∀ p ∈ mv, p.1 < N ∧ p.2 < N) ∧ S = hO h2 :: (T ++ [O.lst (mv.map mvP)]) ∧ ρ = pr ++ [x6, none, none, x9, x10, none, none])
  have hloop := fr_N (gd := []) (b := fun ρ S => evSs tl.ct (callD tl.ct (k + 1)) bmI none ρ S) (t := .nm 6) (fun i : Nat => D.int (i : Nat)) J (fun z _ => z + 1) (fun _ _ _ _ => trivial) (xs := List.range N) (z := 0) (ρ := pr ++ [none, none, none, none, none, none, none]) (S := hO h2 :: (T ++ [O.lst []])) (by rw [hJ]; exact ⟨[], none, none, none, rfl, by simp, rfl, rfl⟩) (by
    intro ys i zs he ρ S hh
    have hi2 := range_at he
    rw [foldl_cnt, Nat.zero_add] at hh ⊢
    rw [hJ] at hh
    obtain ⟨mv, x6, x9, x10, hmv, hmo, rfl, rfl⟩ := hh
    obtain ⟨p, y9, y10, q1, q2, e1⟩ := bm_turn (k := k) (s := i) (h := h2) (T := T) (acc := mv.map mvP) (x6 := x6) (x9 := x9) (x10 := x10) hB1 hB3 him hi hs0 hs1 (by simp; omega)
    rw [hpr]
    refine ⟨_, rfl, ?_⟩
    simp only [List.set_cons_succ, List.set_cons_zero, List.cons_append, List.nil_append]
    rw [e1]
    refine Nx.mk ?_
    rw [hJ]
    refine ⟨mv ++ [p], _, y9, y10, by simp [hmv], ?_, by rw [List.map_append]; rfl, by rw [hpr]; rfl⟩
    intro q hq
    rcases List.mem_append.mp hq with hq | hq
    · exact hmo q hq
    · rw [List.mem_singleton.mp hq, hN]; exact ⟨q1, q2⟩)
  obtain ⟨ρ2, S2, e2, hj2⟩ := hloop
  rw [foldl_cnt, Nat.zero_add, List.length_range, hJ] at hj2
  obtain ⟨mv, x6, x9, x10, hmv, hmo, rfl, rfl⟩ := hj2
  rw [run_l_bits_machine]
  rw [show b_l_bits_machine = bmB from rfl, p0, cut]
  have hfor2 := hfor (hO h2 :: (T ++ [O.lst []]))
  rw [hpr] at hfor2
  simp only [List.cons_append, List.nil_append] at hfor2
  rw [hfor2]
  rw [hpr] at e2
  simp only [List.cons_append, List.nil_append] at e2
  rw [e2, fb_nx]
  show ∃ (M : Mc) (g : Hd), M.ok ∧ gcR (hO h :: T) (fin (evSs tl.ct (callD tl.ct (k + 1)) bmR none _ _)) = _
  have hv : h2.v N < N := h2.v_lt hN1
  have e3 := e_draw (k := k) h2 (T := T ++ [O.lst (mv.map mvP)]) hN1 (show N < 1073741824 by omega)
  have hN' : ((2 ^ B : Nat) : Int) = (N : Int) := by rw [hN]
  rw [hN']
  rw [cut, show evS tl.ct (callD tl.ct (k + 1)) bmR.hd none [some (.ref 0), some (.int (B : Nat)), some (.int (N : Nat)), some (.lst (im.map fun c => .int (c : Nat))), some (.lst [.int (s0 : Nat), .int (s1 : Nat)]), some (.ref (T.length + 1)), x6, none, none, x9, x10, none, none] (hO h2 :: (T ++ [O.lst (mv.map mvP)])) = .nx [some (.ref 0), some (.int (B : Nat)), some (.int (N : Nat)), some (.lst (im.map fun c => .int (c : Nat))), some (.lst [.int (s0 : Nat), .int (s1 : Nat)]), some (.ref (T.length + 1)), x6, some (natL [h2.v N]), none, x9, x10, none, none] (hO (h2.n N) :: (T ++ [O.lst (mv.map mvP)])) by
    simp -dsimp [Ss.hd, Ss.tl, bmR, bmB, b_l_bits_machine, nat_sz, e3, natL], fb_nx, cut]
  generalize hU : T ++ [O.lst (mv.map mvP)] = U
  generalize h2.n N = h3
  have e4 := e_drawI (k := k) h3 (B + 1) (i := (B : Int) + 1) (by simp) (T := U) (by omega) (by omega)
  have hv4 := h3.v_lt (m := B + 1) (by omega)
  have hrg4 : ∀ S, rngS (.int 0) (.int (h3.v (B + 1) : Nat)) S = .ok ⟨(List.range (h3.v (B + 1))).map fun i => D.int (i : Nat), []⟩ S := fun S => rng_0 (by omega)
  have hfor3 : evS tl.ct (callD tl.ct (k + 1)) bmR.tl.hd none [some (.ref 0), some (.int (B : Nat)), some (.int (N : Nat)), some (.lst (im.map fun c => .int (c : Nat))), some (.lst [.int (s0 : Nat), .int (s1 : Nat)]), some (.ref (T.length + 1)), x6, some (natL [h2.v N]), none, x9, x10, none, none] (hO h3 :: U) = frGo [] (.nm 8) (fun ρ S => evSs tl.ct (callD tl.ct (k + 1)) bmJ none ρ S) ((List.range (h3.v (B + 1))).map fun i => D.int (i : Nat)) [some (.ref 0), some (.int (B : Nat)), some (.int (N : Nat)), some (.lst (im.map fun c => .int (c : Nat))), some (.lst [.int (s0 : Nat), .int (s1 : Nat)]), some (.ref (T.length + 1)), x6, some (natL [h2.v N]), none, x9, x10, none, none] (hO (h3.n (B + 1)) :: U) := by
    simp -dsimp [Ss.hd, Ss.tl, bmR, bmB, b_l_bits_machine, e4, hrg4]
    rfl
  rw [hfor3]
  generalize h3.n (B + 1) = h4
  obtain ⟨J2, hJ2⟩ := shut (fun (z : Nat) (ρ : Env') (S : List O) => ∃ (es : List Nat) (g : Hd) (y6 y8 y11 y12 : Option D), Cos N es ∧ es.length ≤ 2 ^ z ∧ S = hO g :: U ∧ ρ = [some (.ref 0), some (.int (B : Nat)), some (.int (N : Nat)), some (.lst (im.map fun c => .int (c : Nat))), some (.lst [.int (s0 : Nat), .int (s1 : Nat)]), some (.ref (T.length + 1)), y6, some (natL es), y8, x9, x10, y11, y12])
  have hc0 : Cos N [h2.v N] := ⟨by simpa using hv, by simp, by simp [Nat.xor_self], by simp⟩
  have hloop2 := fr_N (gd := []) (b := fun ρ S => evSs tl.ct (callD tl.ct (k + 1)) bmJ none ρ S) (t := .nm 8) (fun i : Nat => D.int (i : Nat)) J2 (fun z _ => z + 1) (fun _ _ _ _ => trivial) (xs := List.range (h3.v (B + 1))) (z := 0) (ρ := [some (.ref 0), some (.int (B : Nat)), some (.int (N : Nat)), some (.lst (im.map fun c => .int (c : Nat))), some (.lst [.int (s0 : Nat), .int (s1 : Nat)]), some (.ref (T.length + 1)), x6, some (natL [h2.v N]), none, x9, x10, none, none]) (S := hO h4 :: U) (by rw [hJ2]; exact ⟨_, _, _, _, _, _, hc0, by simp, rfl, rfl⟩) (by
    intro ys i zs he ρ S hh
    have hi2 := range_at he
    rw [foldl_cnt, Nat.zero_add] at hh ⊢
    rw [← hi2.1] at hh ⊢
    rw [hJ2] at hh
    obtain ⟨es, g, y6, y8, y11, y12, hc, hl, rfl, rfl⟩ := hh
    have hp : 2 ^ i ≤ 2 ^ 3 := Nat.pow_le_pow_right (by decide) (by omega)
    rw [hN] at hc
    obtain ⟨fs, g2, b6, b11, b12, c1, c2, e1⟩ := bm_ends (k := k) (a3 := some (.lst (im.map fun c => .int (c : Nat)))) (a4 := some (.lst [.int (s0 : Nat), .int (s1 : Nat)])) (a5 := some (.ref (T.length + 1))) (a6 := y6) (a8 := some (.int (i : Nat))) (a9 := x9) (a10 := x10) (a11 := y11) (a12 := y12) (h := g) (U := U) hB3 hc (by omega)
    rw [hN'] at e1
    refine ⟨_, rfl, ?_⟩
    simp only [List.set_cons_succ, List.set_cons_zero]
    rw [e1]
    refine Nx.mk ?_
    rw [hJ2]
    exact ⟨fs, g2, _, _, _, _, by rw [hN]; exact c1, by rw [Nat.pow_succ]; omega, rfl, rfl⟩)
  obtain ⟨ρ3, S3, e5, hj3⟩ := hloop2
  rw [foldl_cnt, Nat.zero_add, List.length_range, hJ2] at hj3
  obtain ⟨es, g, y6, y8, y11, y12, hc, hl, rfl, rfl⟩ := hj3
  rw [e5, fb_nx]
  have hp : 2 ^ h3.v (B + 1) ≤ 2 ^ 3 := Nat.pow_le_pow_right (by decide) (by omega)
  have hso : ∀ S, sortedD [natL es] S = .ok (natL (srtN es)) S := fun S => sorted_nats (by omega)
  have htn : ∀ S, tupleD [natL (srtN es)] S = .ok (tupI (srtN es)) S := fun S => rfl
  subst hU
  refine ⟨⟨mv, srtN es⟩, g, ⟨by show 1 ≤ mv.length; omega, by show mv.length ≤ 8; omega, fun p hp => by show p.1 < mv.length ∧ p.2 < mv.length; rw [hmv]; exact hmo p hp, fun e he => by show e < mv.length; rw [hmv]; exact hc.lt e (srtN_mem.mp he), srtN_asc hc.nd⟩, ?_⟩
  simp -dsimp [Ss.tl, bmR, bmB, b_l_bits_machine, nat_sz, tup_h, hso, htn]
  exact gcR_hT (by rw [nr_tup, nrL_cons, nrL_cons, nr_tupI, nr_tup, nrL_map fun _ => rfl]; rfl)
end LK78
end
section
set_option Elab.async false
set_option linter.all false
set_option maxRecDepth 100000
set_option maxHeartbeats 1000000
set_option autoImplicit false
namespace LK78
open PySem PySem.Spec PyProof.Rows L2 Ev
def rgB : Ss := b_l_ring_machine
def rgI : Ss := rgB.tl.tl.tl.hd.body
/-- a state of the ring -/
theorem rg_turn {k n b s : Nat} {h : Hd} {T : List O} {acc : List D} {x6 : Option D} (hn1 : 1 ≤ n) (hn : n ≤ 7) (hb : b < n) (hs : s < n) (hacc : acc.length ≤ 1000) :
    ∃ (p : Nat × Nat) (y6 : Option D) (g : Hd), p.1 < n + 1 ∧ p.2 < n + 1 ∧ evSs tl.ct (callD tl.ct (k + 1)) rgI none [some (.ref 0), some (.int (n : Nat)), some (.int (b : Nat)), some (.ref (T.length + 1)), some (.int (s : Nat)), none, x6] (hO h :: (T ++ [O.lst acc])) =
      .nx [some (.ref 0), some (.int (n : Nat)), some (.int (b : Nat)), some (.ref (T.length + 1)), some (.int (s : Nat)), none, y6] (hO g :: (T ++ [O.lst (acc ++ [mvP p])])) := by
  have p1 : ∃ l : Nat, l < n ∧ ∀ S, (evS tl.ct (callD tl.ct (k + 1)) rgI.hd none [some (.ref 0), some (.int (n : Nat)), some (.int (b : Nat)), some (.ref (T.length + 1)), some (.int (s : Nat)), none, x6] S).bind (fun ρ S => evS tl.ct (callD tl.ct (k + 1)) rgI.tl.hd none ρ S) = .nx [some (.ref 0), some (.int (n : Nat)), some (.int (b : Nat)), some (.ref (T.length + 1)), some (.int (s : Nat)), none, some (.int (l : Nat))] S := by
    by_cases he : s + 1 = n
    · have hei : (s : Int) + 1 = n := by omega
      refine ⟨b, hb, fun S => ?_⟩
      simp -dsimp [Ss.hd, Ss.tl, Ev.S.body, rgI, rgB, b_l_ring_machine, eqS_i, hei]
    · have hei : ¬ (s : Int) + 1 = n := by omega
      refine ⟨s + 1, by omega, fun S => ?_⟩
      simp -dsimp [Ss.hd, Ss.tl, Ev.S.body, rgI, rgB, b_l_ring_machine, eqS_i, hei]
  obtain ⟨l, hl, p1⟩ := p1
  have e1 := e_drawI (k := k) h 4 (i := 4) rfl (T := T ++ [O.lst acc]) (by decide) (by decide)
  obtain ⟨d, hd, e2⟩ := idx_mem (n := h.v 4) [mvP (l, l), mvP (l, l), mvP (l, n), mvP (n, l)] (h.v_lt (by decide))
  obtain ⟨p, q1, q2, rfl⟩ : ∃ p : Nat × Nat, p.1 < n + 1 ∧ p.2 < n + 1 ∧ d = mvP p := by
    simp only [List.mem_cons, List.not_mem_nil, or_false] at hd
    rcases hd with rfl | rfl | rfl | rfl <;> exact ⟨_, by dsimp only; omega, by dsimp only; omega, rfl⟩
  refine ⟨p, some (.int (l : Nat)), h.n 4, q1, q2, ?_⟩
  have p1 := p1 (hO h :: (T ++ [O.lst acc]))
  rw [cut]
  have hc : ∀ (f : Fl) (g1 g2 : Env' → List O → Fl), (f.bind fun ρ S => (g1 ρ S).bind g2) = (f.bind g1).bind g2 := fun f g1 g2 => by cases f <;> rfl
  simp only [cut rgI.tl]
  rw [hc, p1, fb_nx]
  simp only [mvP] at e2
  simp -dsimp [Ss.hd, Ss.tl, Ev.S.body, rgI, rgB, b_l_ring_machine, nat_sz, e1, e2, app_h (T := T) (o := hO (h.n 4)) (ds := acc) (by omega), at_h]
  rfl
/-- _law_ring_machine -/
theorem e_ring_machine {k : Nat} (h : Hd) (T : List O) : ∃ (M : Mc) (g : Hd), M.ok ∧ callD tl.ct (k + 2) F_l_ring_machine [.ref 0] (hO h :: T) = .ok (.tup [mvD M.mv, tupI M.en]) (hO g :: T) := by
  have e1 := e_drawI (k := k) h 7 (i := 7) rfl (T := T) (by decide) (by decide)
  have v1 := h.v_lt (m := 7) (by decide)
  obtain ⟨n, hn⟩ : ∃ n, n = 1 + h.v 7 := ⟨_, rfl⟩
  have p1 : evS tl.ct (callD tl.ct (k + 1)) rgB.hd none [some (.ref 0), none, none, none, none, none, none] (hO h :: T) = .nx [some (.ref 0), some (.int (n : Nat)), none, none, none, none, none] (hO (h.n 7) :: T) := by
    simp -dsimp [Ss.hd, rgB, b_l_ring_machine, e1, hn]
  have hn1 : 1 ≤ n := by omega
  have hn7 : n ≤ 7 := by omega
  clear hn
  generalize h.n 7 = h2 at p1
  have e2 := e_draw (k := k) h2 (m := n) (T := T) (by omega) (by omega)
  have hb := h2.v_lt (m := n) (by omega)
  have p2 : evS tl.ct (callD tl.ct (k + 1)) rgB.tl.hd none [some (.ref 0), some (.int (n : Nat)), none, none, none, none, none] (hO h2 :: T) = .nx [some (.ref 0), some (.int (n : Nat)), some (.int (h2.v n : Nat)), none, none, none, none] (hO (h2.n n) :: T) := by
    simp -dsimp [Ss.hd, Ss.tl, rgB, b_l_ring_machine, e2]
  generalize h2.v n = b at p2 hb
  generalize h2.n n = h3 at p2
  have p3 : evS tl.ct (callD tl.ct (k + 1)) rgB.tl.tl.hd none [some (.ref 0), some (.int (n : Nat)), some (.int (b : Nat)), none, none, none, none] (hO h3 :: T) = .nx [some (.ref 0), some (.int (n : Nat)), some (.int (b : Nat)), some (.ref (T.length + 1)), none, none, none] (hO h3 :: (T ++ [O.lst []])) := by
    simp -dsimp [Ss.hd, Ss.tl, rgB, b_l_ring_machine, nat_sz]
  have hrg : ∀ S, rngS (.int 0) (.int (n : Nat)) S = .ok ⟨(List.range n).map fun i => D.int (i : Nat), []⟩ S := fun S => rng_0 (n := n) (by omega)
  have hfor : ∀ S, evS tl.ct (callD tl.ct (k + 1)) rgB.tl.tl.tl.hd none [some (.ref 0), some (.int (n : Nat)), some (.int (b : Nat)), some (.ref (T.length + 1)), none, none, none] S = frGo [] (.nm 4) (fun ρ S => evSs tl.ct (callD tl.ct (k + 1)) rgI none ρ S) ((List.range n).map fun i => D.int (i : Nat)) [some (.ref 0), some (.int (n : Nat)), some (.int (b : Nat)), some (.ref (T.length + 1)), none, none, none] S := fun S => by
    simp -dsimp [Ss.hd, Ss.tl, rgB, b_l_ring_machine, hrg]
    rfl
  obtain ⟨J, hJ⟩ := shut (fun (z : Nat) (ρ : Env') (S : List O) => ∃ (mv : List (Nat × Nat)) (x4 x6 : Option D) (g : Hd), mv.length = z ∧ (∀ p ∈ mv, p.1 < n + 1 ∧ p.2 < n + 1) ∧ S = hO g :: (T ++ [O.lst (mv.map mvP)]) ∧ ρ = [some (.ref 0), some (.int (n : Nat)), some (.int (b : Nat)), some (.ref (T.length + 1)), x4, none, x6])
  have hloop := fr_N (gd := []) (b := fun ρ S => evSs tl.ct (callD tl.ct (k + 1)) rgI none ρ S) (t := .nm 4) (fun i : Nat => D.int (i : Nat)) J (fun z _ => z + 1) (fun _ _ _ _ => trivial) (xs := List.range n) (z := 0) (ρ := [some (.ref 0), some (.int (n : Nat)), some (.int (b : Nat)), some (.ref (T.length + 1)), none, none, none]) (S := hO h3 :: (T ++ [O.lst []])) (by rw [hJ]; exact ⟨[], none, none, h3, rfl, by simp, rfl, rfl⟩) (by
    intro ys i zs he ρ S hh
    have hi2 := range_at he
    rw [foldl_cnt, Nat.zero_add] at hh ⊢
    rw [hJ] at hh
    obtain ⟨mv, x4, x6, g, hmv, hmo, rfl, rfl⟩ := hh
    obtain ⟨p, y6, g2, q1, q2, e1⟩ := rg_turn (k := k) (s := i) (h := g) (T := T) (acc := mv.map mvP) (x6 := x6) hn1 hn7 hb hi2.2 (by simp; omega)
    refine ⟨_, rfl, ?_⟩
    simp only [List.set_cons_succ, List.set_cons_zero]
    rw [e1]
    refine Nx.mk ?_
    rw [hJ]
    refine ⟨mv ++ [p], _, _, g2, by simp [hmv], ?_, by rw [List.map_append]; rfl, rfl⟩
    intro q hq
    rcases List.mem_append.mp hq with hq | hq
    · exact hmo q hq
    · rw [List.mem_singleton.mp hq]; exact ⟨q1, q2⟩)
  obtain ⟨ρ2, S2, e3, hj2⟩ := hloop
  rw [foldl_cnt, Nat.zero_add, List.length_range, hJ] at hj2
  obtain ⟨mv, x4, x6, g, hmv, hmo, rfl, rfl⟩ := hj2
  rw [run_l_ring_machine, show b_l_ring_machine = rgB from rfl, cut, p1, fb_nx, cut, p2, fb_nx, cut, p3, fb_nx, cut, hfor, e3, fb_nx, cut]
  have p5 : evS tl.ct (callD tl.ct (k + 1)) rgB.tl.tl.tl.tl.hd none [some (.ref 0), some (.int (n : Nat)), some (.int (b : Nat)), some (.ref (T.length + 1)), x4, none, x6] (hO g :: (T ++ [O.lst (mv.map mvP)])) = .nx [some (.ref 0), some (.int (n : Nat)), some (.int (b : Nat)), some (.ref (T.length + 1)), x4, none, x6] (hO g :: (T ++ [O.lst ((mv ++ [(n, n)]).map mvP)])) := by
    simp -dsimp [Ss.hd, Ss.tl, rgB, b_l_ring_machine, nat_sz, app_h (T := T) (o := hO g) (ds := mv.map mvP) (by simp; omega), at_h]
    rfl
  rw [p5, fb_nx, cut]
  have hmv2 : (mv ++ [(n, n)]).length = n + 1 := by simp [hmv]
  have hmo2 : ∀ p ∈ mv ++ [(n, n)], p.1 < n + 1 ∧ p.2 < n + 1 := fun p hp => by
    rcases List.mem_append.mp hp with hp | hp
    · exact hmo p hp
    · rw [List.mem_singleton.mp hp]; exact ⟨Nat.lt_succ_self n, Nat.lt_succ_self n⟩
  generalize mv ++ [(n, n)] = mv2 at hmv2 hmo2
  have p6 : ∃ (us : List Nat) (g2 : Hd), us.Sublist (List.range n) ∧ evS tl.ct (callD tl.ct (k + 1)) rgB.tl.tl.tl.tl.tl.hd none [some (.ref 0), some (.int (n : Nat)), some (.int (b : Nat)), some (.ref (T.length + 1)), x4, none, x6] (hO g :: (T ++ [O.lst (mv2.map mvP)])) = .nx [some (.ref 0), some (.int (n : Nat)), some (.int (b : Nat)), some (.ref (T.length + 1)), x4, some (natL us), x6] (hO g2 :: (T ++ [O.lst (mv2.map mvP)])) := by
    simp -dsimp [Ss.hd, Ss.tl, rgB, b_l_ring_machine, hrg]
    generalize hr : gcR _ (lcE _ _ _ _) = r
    obtain ⟨o, us, rfl, ⟨g2, rfl⟩, hus⟩ := lcE_some hr (n := 0) (o := hO g) (Q := fun o => ∃ h, o = hO h) (fun i : Nat => D.int (i : Nat)) (fun i : Nat => D.int (i : Nat)) rfl rfl ⟨g, rfl⟩ (by rintro o ⟨h, rfl⟩; exact hO_cl h _) (by
      rintro i hi o acc ⟨f, rfl⟩
      have e4 := e_drawI (k := k) f 2 (i := 2) rfl (T := T ++ [O.lst (mv2.map mvP)] ++ [.lst acc]) (by decide) (by decide)
      by_cases h0 : f.v 2 = 0
      · refine ⟨hO (f.n 2), some (.int (i : Nat)), ?_, ⟨_, rfl⟩, .inr rfl⟩
        rw [h0] at e4
        simp -dsimp at e4
        simp -dsimp [e4, eqS_i]
      · have h0i : ¬ ((f.v 2 : Nat) : Int) = 0 := by omega
        refine ⟨hO (f.n 2), none, ?_, ⟨_, rfl⟩, .inl rfl⟩
        simp -dsimp at e4
        simp -dsimp [e4, eqS_i, h0, h0i]) (by simp; omega) (fun _ _ => rfl)
    refine ⟨us, hus, g2, ?_⟩
    simp -dsimp [natL]
  obtain ⟨us, g2, hus, p6⟩ := p6
  rw [p6, fb_nx]
  refine ⟨⟨mv2, us⟩, g2, ⟨by show 1 ≤ mv2.length; omega, by show mv2.length ≤ 8; omega, fun p hp => by show p.1 < mv2.length ∧ p.2 < mv2.length; rw [hmv2]; exact hmo2 p hp, fun e he => by
    show e < mv2.length
    have := List.mem_range.mp (hus.subset he)
    omega, List.Pairwise.sublist hus List.pairwise_lt_range⟩, ?_⟩
  have htn : ∀ S, tupleD [natL us] S = .ok (tupI us) S := fun S => rfl
  simp -dsimp [Ss.tl, rgB, b_l_ring_machine, nat_sz, tup_h, htn]
  exact gcR_hT (by rw [nr_tup, nrL_cons, nrL_cons, nr_tupI, nr_tup, nrL_map fun _ => rfl]; rfl)
end LK78
end
section
set_option Elab.async false
set_option linter.all false
set_option maxRecDepth 100000
set_option maxHeartbeats 1000000
set_option autoImplicit false
namespace LK78
open PySem PySem.Spec PyProof.Rows L2 Ev
/-- a sign -/
def bit (c : Nat) : Bool := c == 48 || c == 49
def mark (c : Nat) : Bool := bit c || c == 46
/-- all are signs; all are marks -/
def rowB (cs : List Nat) : Bool := cs.all bit
def mrkB (cs : List Nat) : Bool := cs.all mark
def bits (cs : List Nat) : Prop := ∀ c ∈ cs, bit c = true
def marks (cs : List Nat) : Prop := ∀ c ∈ cs, mark c = true
theorem bit_lt {c : Nat} (h : bit c = true) : c < 1114112 := by
  unfold bit at h
  rcases Bool.or_eq_true_iff.mp h with h | h <;> (have := beq_iff_eq.mp h; omega)
theorem mark_lt {c : Nat} (h : mark c = true) : c < 1114112 := by
  unfold mark at h
  rcases Bool.or_eq_true_iff.mp h with h | h
  · exact bit_lt h
  · have := beq_iff_eq.mp h; omega
theorem bits_asc {cs : List Nat} (h : bits cs) : asc cs := fun c hc => bit_lt (h c hc)
theorem marks_asc {cs : List Nat} (h : marks cs) : asc cs := fun c hc => mark_lt (h c hc)
theorem bits_marks {cs : List Nat} (h : bits cs) : marks cs := fun c hc => by unfold mark; rw [h c hc]; rfl
theorem in_signs {c : Nat} (S : List O) (h : c < 1114112) : inDS false (.str [c]) (.ft [.str [48], .str [49]]) S = .ok (.bl (bit c)) S := by
  have h1 : shD (.str [c]) = true := sh_str (by intro d hd; simp at hd; omega)
  have h2 : shD (.tup [.str [48], .str [49]]) = true := sh_tup (by decide)
  have e : ∀ d : Nat, (d == c) = (c == d) := fun d => beq_comm' d c
  simp -dsimp [inDS, seqOf, h1, h2, bit, e]
/-- is_row -/
theorem e_is_row {k : Nat} (cs : List Nat) (S : List O) (hz : cs.length ≤ 10000) (ha : asc cs) : callD tl.ct (k + 1) F_is_row [.str cs] S = .ok (.bl (rowB cs)) S := by
  rw [run_is_row]
  simp -dsimp [b_is_row, ofS, srcOf]
  rw [lc_map (fun c => D.str [c]) (fun c => .bl (bit c)) (fun c hc T => by simp -dsimp [in_signs T (ha c hc)]) hz (by simp)]
  simp -dsimp [all_bls (f := fun c => D.bl (bit c)) (g := bit) fun _ => rfl]
  rfl
/-- what is no text -/
def noStr : D → Bool
  | .non | .bl _ | .int _ | .tup _ | .ft _ | .lst _ | .fl _ | .dk _ _ | .dt _ _ => true
  | _ => false
theorem e_is_row_no {k : Nat} {x : D} (S : List O) (h : noStr x = true) : callD tl.ct (k + 1) F_is_row [x] S = .ok (.bl false) S := by
  rw [run_is_row]
  cases x <;> first | (cases h; done) | simp -dsimp [b_is_row]
end LK78
end
section
set_option Elab.async false
set_option linter.all false
set_option maxRecDepth 100000
set_option maxHeartbeats 1000000
set_option autoImplicit false
namespace LK78
open PySem PySem.Spec PyProof.Rows L2 Ev
def stepQ (M : Mc) (ls : List Nat) (q : List Nat × Nat) : List (List Nat × Nat) := [(q.1 ++ [48], (M.to q.2).1), (q.1 ++ [49], (M.to q.2).2)].filter fun r => decide (r.2 ∈ ls)
def stepF (M : Mc) (ls : List Nat) (found : List (List Nat × Nat)) : List (List Nat × Nat) := found.flatMap (stepQ M ls)
/-- the rows so far, from which ways lead to an end -/
def fdP (M : Mc) (L : Nat) : Nat → List (List Nat × Nat)
  | 0 => if 0 ∈ lv M L then [([], 0)] else []
  | z + 1 => stepF M (lv M (L - z - 1)) (fdP M L z)
def pD (q : List Nat × Nat) : D := .tup [.str q.1, .int (q.2 : Nat)]
theorem stepQ_len (M : Mc) (ls : List Nat) (q : List Nat × Nat) : (stepQ M ls q).length ≤ 2 := by
  unfold stepQ
  exact Nat.le_trans (List.length_filter_le _ _) (by simp)
theorem stepF_len (M : Mc) (ls : List Nat) (found : List (List Nat × Nat)) : (stepF M ls found).length ≤ 2 * found.length := by
  unfold stepF
  induction found with
  | nil => simp
  | cons q found ih =>
    rw [List.flatMap_cons, List.length_append, List.length_cons]
    have := stepQ_len M ls q
    omega
theorem fdP_len (M : Mc) (L : Nat) : ∀ z, (fdP M L z).length ≤ 2 ^ z
  | 0 => by unfold fdP; split <;> simp
  | z + 1 => by
    have := fdP_len M L z
    have h2 := stepF_len M (lv M (L - z - 1)) (fdP M L z)
    show (stepF M _ _).length ≤ _
    rw [Nat.pow_succ]
    omega
theorem to_lt {M : Mc} (h : M.ok) {s : Nat} (hs : s < M.n) : (M.to s).1 < M.n ∧ (M.to s).2 < M.n := by
  have hs' : s < M.mv.length := hs
  have hq := h.mvlt (M.mv[s]) (List.getElem_mem hs')
  rwa [← to_get hs'] at hq
theorem fdP_ok {M : Mc} (h : M.ok) (L : Nat) : ∀ z, ∀ q ∈ fdP M L z, q.2 < M.n ∧ bits q.1 ∧ q.1.length = z
  | 0, q, hq => by
    unfold fdP at hq
    split at hq
    · rw [List.mem_singleton.mp hq]
      exact ⟨h.pos, fun c hc => (nomatch hc), rfl⟩
    · cases hq
  | z + 1, q, hq => by
    obtain ⟨p, hp, h2⟩ := List.mem_flatMap.mp (show q ∈ (fdP M L z).flatMap (stepQ M (lv M (L - z - 1))) from hq)
    obtain ⟨h3, h4, h5⟩ := fdP_ok h L z p hp
    have h6 := to_lt h h3
    obtain ⟨h7, _⟩ := List.mem_filter.mp h2
    have hb : ∀ c, bit c = true → bits (p.1 ++ [c]) := fun c hc d hd => by
      rcases List.mem_append.mp hd with hd | hd
      · exact h4 d hd
      · rw [List.mem_singleton.mp hd]; exact hc
    simp only [List.mem_cons, List.not_mem_nil, or_false] at h7
    rcases h7 with rfl | rfl
    · exact ⟨h6.1, hb 48 rfl, by simp [h5]⟩
    · exact ⟨h6.2, hb 49 rfl, by simp [h5]⟩
def rB : Ss := b_rows_of.tl.tl.hd.body
theorem idx_mv {M : Mc} {s : Nat} {S : List O} (h : s < M.n) : idxD (mvD M.mv) (.int (s : Nat)) S = .ok (.tup [.int ((M.to s).1 : Nat), .int ((M.to s).2 : Nat)]) S := by
  have hs : s < M.mv.length := h
  show (match atI (M.mv.map fun p => D.tup [.int (p.1 : Nat), .int (p.2 : Nat)]) (s : Int) with
    | some d => R.ok d S
    | none => .bad) = _
  rw [at_nat (by simpa using hs), to_get hs]
  simp
/-- a row's turn -/
theorem row_turn {C : Orc} {L i s : Nat} {M : Mc} (h : M.ok) (hi : i < L) (hs : s < M.n) {r : List Nat} (hr : r.length ≤ 1000) {fd : D} {x y : Option D} {U : List O} {acc : List D} (hacc : acc.length ≤ 99990) :
    ∃ x' y', evSs tl.ct C rB.tl.hd.body none [some (mcD M), some (.int (L : Nat)), some (lvD M L), some fd, some (.int (i : Nat)), some (.ref U.length), some (.str r), some (.int (s : Nat)), x, y] (U ++ [.lst acc]) =
      .nx [some (mcD M), some (.int (L : Nat)), some (lvD M L), some fd, some (.int (i : Nat)), some (.ref U.length), some (.str r), some (.int (s : Nat)), x', y'] (U ++ [.lst (acc ++ (stepQ M (lv M (L - i - 1)) (r, s)).map pD)]) := by
  have hin : ∀ (p j : Nat) T, inDS false (.int (p : Nat)) (natL (lv M j)) T = .ok (.bl (decide (p ∈ lv M j))) T := fun p j T => by
    unfold natL
    rw [in_lstI]; simp
  have hix : ∀ T, idxD (lvD M L) (.int ((L : Int) - (i : Int) - 1)) T = .ok (natL (lv M (L - i - 1))) T := fun T => by
    rw [show (L : Int) - (i : Int) - 1 = ((L - i - 1 : Nat) : Int) by omega]
    exact idx_rg (by omega)
  have a1 : ∀ T, addD (.str r) (.str [48]) T = .ok (.str (r ++ [48])) T := fun T => add_str (by simp; omega)
  have a2 : ∀ T, addD (.str r) (.str [49]) T = .ok (.str (r ++ [49])) T := fun T => add_str (by simp; omega)
  refine ⟨some (.str [49]), some (.int ((M.to s).2 : Nat)), ?_⟩
  by_cases c1 : (M.to s).1 ∈ lv M (L - i - 1)
  · by_cases c2 : (M.to s).2 ∈ lv M (L - i - 1)
    · simp -dsimp [rB, Ev.S.body, Ss.tl, Ss.hd, b_rows_of, idx_mv hs, zipS, hix, hin, c1, c2, a1, a2, nat_sz, app_top (ds := acc) (show acc.length ≤ 100000 by omega), app_top (ds := acc ++ [D.tup [.str (r ++ [48]), .int ((M.to s).1 : Nat)]]) (show (acc ++ [D.tup [.str (r ++ [48]), .int ((M.to s).1 : Nat)]]).length ≤ 100000 by simp; omega), stepQ, pD]
    · simp -dsimp [rB, Ev.S.body, Ss.tl, Ss.hd, b_rows_of, idx_mv hs, zipS, hix, hin, c1, c2, a1, a2, nat_sz, app_top (ds := acc) (show acc.length ≤ 100000 by omega), stepQ, pD]
  · by_cases c2 : (M.to s).2 ∈ lv M (L - i - 1)
    · simp -dsimp [rB, Ev.S.body, Ss.tl, Ss.hd, b_rows_of, idx_mv hs, zipS, hix, hin, c1, c2, a1, a2, nat_sz, app_top (ds := acc) (show acc.length ≤ 100000 by omega), stepQ, pD]
    · simp -dsimp [rB, Ev.S.body, Ss.tl, Ss.hd, b_rows_of, idx_mv hs, zipS, hix, hin, c1, c2, a1, a2, nat_sz, stepQ, pD]
theorem stepF_snoc (M : Mc) (ls : List Nat) (a : List (List Nat × Nat)) (q : List Nat × Nat) : stepF M ls (a ++ [q]) = stepF M ls a ++ stepQ M ls q := by
  unfold stepF
  rw [List.flatMap_append]; simp
/-- rows_of -/
theorem e_rows_of {k L : Nat} {M : Mc} (h : M.ok) (hL : L ≤ 10) (S : List O) : callD tl.ct (k + 3) F_rows_of [mcD M, .int (L : Nat)] S = .ok (.lst ((fdP M L L).map fun q => .str q.1)) S := by
  have hin0 : ∀ T, inDS false (.int 0) (natL (lv M L)) T = .ok (.bl (decide (0 ∈ lv M L))) T := fun T => by
    have := in_lstI (neg := false) (ps := lv M L) (p := 0) (S := T)
    unfold natL
    simpa using this
  have hixL : ∀ T, idxD (lvD M L) (.int (L : Nat)) T = .ok (natL (lv M L)) T := fun T => idx_rg (by omega)
  rw [run_rows_of, cut, show evS tl.ct (callD tl.ct (k + 2)) b_rows_of.hd none [some (mcD M), some (.int (L : Nat)), none, none, none, none, none, none, none, none] S = .nx [some (mcD M), some (.int (L : Nat)), some (lvD M L), none, none, none, none, none, none, none] S by
    simp -dsimp [Ss.hd, b_rows_of, e_live_list h (show L ≤ 1000 by omega)], fb_nx, cut]
  have s2 : evS tl.ct (callD tl.ct (k + 2)) b_rows_of.tl.hd none [some (mcD M), some (.int (L : Nat)), some (lvD M L), none, none, none, none, none, none, none] S = .nx [some (mcD M), some (.int (L : Nat)), some (lvD M L), some (.lst ((fdP M L 0).map pD)), none, none, none, none, none, none] S := by
    unfold fdP
    by_cases h0 : 0 ∈ lv M L
    · simp -dsimp [Ss.hd, Ss.tl, b_rows_of, hixL, hin0, h0, nat_sz, pD]
    · simp -dsimp [Ss.hd, Ss.tl, b_rows_of, hixL, hin0, h0, nat_sz, pD]
  rw [s2, fb_nx, cut]
  obtain ⟨J, hJ⟩ := shut (fun (z : Nat) (ρ : Env') (S' : List O) => ∃ fd a b c d e f, ρ = [some (mcD M), some (.int (L : Nat)), some (lvD M L), some fd, a, b, c, d, e, f] ∧ (∃ Ls, S' = S ++ Ls) ∧ SrcL S' fd ((fdP M L z).map pD))
  have hfor : evS tl.ct (callD tl.ct (k + 2)) b_rows_of.tl.tl.hd none [some (mcD M), some (.int (L : Nat)), some (lvD M L), some (.lst ((fdP M L 0).map pD)), none, none, none, none, none, none] S = frGo [] (.nm 4) (fun ρ S => evSs tl.ct (callD tl.ct (k + 2)) rB none ρ S) ((List.range L).map fun i => D.int (i : Nat)) [some (mcD M), some (.int (L : Nat)), some (lvD M L), some (.lst ((fdP M L 0).map pD)), none, none, none, none, none, none] S := by
    have hrg := rng_0 (n := L) (S := S) (by omega)
    simp -dsimp only [Ss.hd, Ss.tl, b_rows_of, v_fr, wi_rng, w_var, List.getElem?_cons_zero, List.getElem?_cons_succ, R.bind_ok, hid_ap, hrg, fl_ok]
    rfl
  rw [hfor]
  refine fr_NK (P := fun g => gcR S (fin g) = R.ok (.lst ((fdP M L L).map fun q => .str q.1)) S) (fun i : Nat => D.int (i : Nat)) J (fun z _ => z + 1) (z := 0) (by rw [hJ]; exact ⟨_, _, _, _, _, _, _, rfl, ⟨[], by simp⟩, SrcL.lst⟩) ?_ ?_
  · intro ys i zs he ρ S1 hh
    have hi := range_at he
    rw [foldl_cnt, Nat.zero_add] at hh ⊢
    rw [← hi.1] at hh ⊢
    rw [hJ] at hh
    obtain ⟨fd, a, b, c, d, e, f, rfl, ⟨Ls, rfl⟩, hsrc⟩ := hh
    refine ⟨_, rfl, ?_⟩
    simp only [List.set_cons_succ, List.set_cons_zero]
    generalize hU : S ++ Ls = U at hsrc ⊢
    rw [cut, show evS tl.ct (callD tl.ct (k + 2)) rB.hd none [some (mcD M), some (.int (L : Nat)), some (lvD M L), some fd, some (.int (i : Nat)), b, c, d, e, f] U = .nx [some (mcD M), some (.int (L : Nat)), some (lvD M L), some fd, some (.int (i : Nat)), some (.ref U.length), c, d, e, f] (U ++ [.lst []]) by
      simp -dsimp [rB, Ev.S.body, Ss.hd, Ss.tl, b_rows_of, nat_sz], fb_nx, cut]
    obtain ⟨gd, g1, g2⟩ := hsrc
    have hfl := fdP_len M L i
    have hp : 2 ^ i ≤ 2 ^ 10 := Nat.pow_le_pow_right (by decide) (by omega)
    have hfor2 : evS tl.ct (callD tl.ct (k + 2)) rB.tl.hd none [some (mcD M), some (.int (L : Nat)), some (lvD M L), some fd, some (.int (i : Nat)), some (.ref U.length), c, d, e, f] (U ++ [.lst []]) = frGo gd (.tup (.cons (.nm 6) (.cons (.nm 7) .nil))) (fun ρ S => evSs tl.ct (callD tl.ct (k + 2)) rB.tl.hd.body none ρ S) ((fdP M L i).map pD) [some (mcD M), some (.int (L : Nat)), some (lvD M L), some fd, some (.int (i : Nat)), some (.ref U.length), c, d, e, f] (U ++ [.lst []]) := by
      have hs := g1 [.lst []]
      simp -dsimp only [rB, Ev.S.body, Ss.hd, Ss.tl, b_rows_of, v_fr, wi_of, w_var, List.getElem?_cons_zero, List.getElem?_cons_succ, R.bind_ok, hid_ap, ofS_of, hs, fl_ok]
      rfl
    rw [hfor2]
    obtain ⟨J2, hJ2⟩ := shut (fun (z : List (List Nat × Nat)) (ρ : Env') (S' : List O) => ∃ c d e f, ρ = [some (mcD M), some (.int (L : Nat)), some (lvD M L), some fd, some (.int (i : Nat)), some (.ref U.length), c, d, e, f] ∧ S' = U ++ [.lst ((stepF M (lv M (L - i - 1)) z).map pD)])
    have hloop := fr_N (gd := gd) (b := fun ρ S => evSs tl.ct (callD tl.ct (k + 2)) rB.tl.hd.body none ρ S) (t := .tup (.cons (.nm 6) (.cons (.nm 7) .nil))) pD J2 (fun z q => z ++ [q]) (fun z ρ S' hz => by
      rw [hJ2] at hz
      obtain ⟨_, _, _, _, _, rfl⟩ := hz
      exact g2 _) (xs := fdP M L i) (z := []) (ρ := [some (mcD M), some (.int (L : Nat)), some (lvD M L), some fd, some (.int (i : Nat)), some (.ref U.length), c, d, e, f]) (S := U ++ [.lst []]) (by rw [hJ2]; exact ⟨_, _, _, _, rfl, rfl⟩) (by
      intro us q vs hq ρ S3 hh3
      rw [foldl_snoc, List.nil_append] at hh3 ⊢
      rw [hJ2] at hh3
      obtain ⟨c, d, e, f, rfl, rfl⟩ := hh3
      obtain ⟨q1, q2, q3⟩ := fdP_ok h L i q (by rw [hq]; simp)
      have hus : us.length ≤ 1024 := by
        have : (fdP M L i).length = (us ++ q :: vs).length := by rw [hq]
        simp at this; omega
      have hsl := stepF_len M (lv M (L - i - 1)) us
      obtain ⟨x', y', e1⟩ := row_turn (C := callD tl.ct (k + 2)) (M := M) h hi.2 q1 (r := q.1) (by omega) (fd := fd) (x := e) (y := f) (U := U) (acc := (stepF M (lv M (L - i - 1)) us).map pD) (by simp; omega)
      refine ⟨_, rfl, ?_⟩
      simp only [List.set_cons_succ, List.set_cons_zero]
      rw [e1]
      refine Nx.mk ?_
      rw [hJ2]
      exact ⟨_, _, _, _, rfl, by rw [stepF_snoc, List.map_append]⟩)
    obtain ⟨ρ2, S2, e2, hj2⟩ := hloop
    rw [foldl_snoc, List.nil_append, hJ2] at hj2
    obtain ⟨c2, d2, e3, f2, rfl, rfl⟩ := hj2
    rw [e2, fb_nx]
    simp -dsimp [rB, Ev.S.body, Ss.hd, Ss.tl, b_rows_of]
    refine Nx.mk ?_
    rw [hJ]
    refine ⟨_, _, _, _, _, _, _, rfl, ⟨Ls ++ [.lst ((stepF M (lv M (L - i - 1)) (fdP M L i)).map pD)], by rw [← hU, List.append_assoc]⟩, ?_⟩
    exact SrcL.ref (ds := (fdP M L (i + 1)).map pD) (by simp; rfl)
  · intro ρ2 S2 hh
    rw [foldl_cnt, Nat.zero_add, List.length_range, hJ] at hh
    obtain ⟨fd, a, b, c, d, e, f, rfl, ⟨Ls, rfl⟩, gd, g1, g2⟩ := hh
    have hs := g1 []
    rw [List.append_nil] at hs
    simp -dsimp [Ss.tl, b_rows_of, hs]
    generalize hr : gcR _ (lcE _ _ _ _) = r
    have hfl := fdP_len M L L
    have hp : 2 ^ L ≤ 2 ^ 10 := Nat.pow_le_pow_right (by decide) (by omega)
    have hr := lc_resG hr pD (fun q => .str q.1) rfl g2 (fun q _ T => by simp -dsimp [pD]) (by omega) (fun _ _ => rfl)
    subst hr
    simp -dsimp
    exact gcR_val (nr_cl _ (nrL_map fun _ => rfl))
end LK78
end
section
set_option Elab.async false
set_option linter.all false
set_option maxRecDepth 100000
set_option maxHeartbeats 1000000
set_option autoImplicit false
namespace LK78
open PySem PySem.Spec PyProof.Rows L2 Ev
theorem prs_of {ys : List D} {N : Nat} (h : ∀ y ∈ ys, ∃ p : Nat × Nat, (p.1 < N ∧ p.2 < N) ∧ y = mvP p) : ∃ mv : List (Nat × Nat), ys = mv.map mvP ∧ ∀ p ∈ mv, p.1 < N ∧ p.2 < N := by
  induction ys with
  | nil => exact ⟨[], rfl, by simp⟩
  | cons y ys ih =>
    obtain ⟨cs, rfl, h1⟩ := ih fun z hz => h z (List.mem_cons_of_mem _ hz)
    obtain ⟨c, hc, rfl⟩ := h y List.mem_cons_self
    exact ⟨c :: cs, rfl, fun d hd => by
      rcases List.mem_cons.mp hd with rfl | hd
      · exact hc
      · exact h1 d hd⟩
def maB : Ss := b_l_machine
theorem in_two {a b v : Nat} {S : List O} : inDS false (.int (v : Nat)) (.tup [.int (a : Nat), .int (b : Nat)]) S = .ok (.bl (decide (v = a ∨ v = b))) S := by
  have := in_tupI (neg := false) (ps := [a, b]) (p := (v : Nat)) (S := S)
  have e : tupI [a, b] = .tup [.int (a : Nat), .int (b : Nat)] := rfl
  rw [e] at this
  rw [this]
  have : (false != (decide ((0 : Int) ≤ (v : Int)) && [a, b].contains (v : Int).toNat)) = decide (v = a ∨ v = b) := by simp [Bool.eq_iff_iff]
  rw [this]
/-- a drawn machine -/
theorem ma_drawn {k most kd : Nat} {a3 a4 a5 a6 a7 : Option D} (h : Hd) (T : List O) (hm1 : 1 ≤ most) (hm8 : most ≤ 8) (hkd : 3 < kd) :
    ∃ (M : Mc) (g : Hd) (b5 : Option D), M.ok ∧ evS tl.ct (callD tl.ct (k + 1)) maB.tl.tl.tl.hd none [some (.ref 0), some (.int (most : Nat)), some (.int (kd : Nat)), a3, a4, a5, a6, a7] (hO h :: T) =
      .nx [some (.ref 0), some (.int (most : Nat)), some (.int (kd : Nat)), some (mvD M.mv), some (tupI M.en), b5, a6, a7] (hO g :: T) := by
  have e1 := e_draw (k := k) h (m := most) (T := T) (by omega) (by omega)
  have v1 := h.v_lt (m := most) (by omega)
  obtain ⟨n, hn⟩ : ∃ n, n = 1 + h.v most := ⟨_, rfl⟩
  have hni : (1 : Int) + (h.v most : Nat) = (n : Nat) := by omega
  have hn1 : 1 ≤ n := by omega
  have hn8 : n ≤ 8 := by omega
  have hkdi : (3 : Int) < (kd : Nat) := by omega
  have hrg : ∀ S, rngS (.int 0) (.int (n : Nat)) S = .ok ⟨(List.range n).map fun i => D.int (i : Nat), []⟩ S := fun S => rng_0 (n := n) (by omega)
  obtain ⟨P, hP⟩ := shut (fun f : Fl => ∃ (M : Mc) (g : Hd) (b5 : Option D), M.ok ∧ f = .nx [some (.ref 0), some (.int (most : Nat)), some (.int (kd : Nat)), some (mvD M.mv), some (tupI M.en), b5, a6, a7] (hO g :: T))
  suffices hh : P (evS tl.ct (callD tl.ct (k + 1)) maB.tl.tl.tl.hd none [some (.ref 0), some (.int (most : Nat)), some (.int (kd : Nat)), a3, a4, a5, a6, a7] (hO h :: T)) by
    rw [hP] at hh; exact hh
  simp -dsimp [Ss.hd, Ss.tl, maB, b_l_machine, hkdi, hkd, e1, hni, hrg]
  generalize hr : gcR _ (lcE _ _ _ _) = r
  obtain ⟨o, ys, rfl, ⟨h2, rfl⟩, hyl, hy⟩ := lcE_resP hr (n := 0) (o := hO (h.n most)) (Q := fun o => ∃ h, o = hO h) (fun i : Nat => D.int (i : Nat)) (fun _ y => ∃ p : Nat × Nat, (p.1 < n ∧ p.2 < n) ∧ y = mvP p) rfl rfl ⟨_, rfl⟩ (by rintro o ⟨h, rfl⟩; exact hO_cl h _) (by
    rintro i hi o acc ⟨g, rfl⟩
    refine ⟨hO ((g.n n).n n), mvP (g.v n, (g.n n).v n), ?_, ⟨_, rfl⟩, _, ⟨g.v_lt (by omega), (g.n n).v_lt (by omega)⟩, rfl⟩
    simp -dsimp [mvP, nat_sz, e_draw (k := k) g (m := n) (by omega) (show n < 1073741824 by omega), e_draw (k := k) (g.n n) (m := n) (by omega) (show n < 1073741824 by omega)]) (by simp; omega) (by rintro x _ y ⟨c, _, rfl⟩; rfl)
  obtain ⟨mv, rfl, hmo⟩ := prs_of (zip_all (Q := fun y => ∃ p : Nat × Nat, (p.1 < n ∧ p.2 < n) ∧ y = mvP p) hyl hy)
  have hmv : mv.length = n := by simpa using hyl
  simp -dsimp [hrg]
  generalize hr : gcR _ (lcE _ _ _ _) = r
  obtain ⟨o, us, rfl, ⟨g2, rfl⟩, hus⟩ := lcE_some hr (n := 0) (o := hO h2) (Q := fun o => ∃ h, o = hO h) (fun i : Nat => D.int (i : Nat)) (fun i : Nat => D.int (i : Nat)) rfl rfl ⟨_, rfl⟩ (by rintro o ⟨h, rfl⟩; exact hO_cl h _) (by
    rintro i hi o acc ⟨f, rfl⟩
    have e4 := e_drawI (k := k) f 2 (i := 2) rfl (T := T ++ [.lst acc]) (by decide) (by decide)
    by_cases h0 : f.v 2 = 0
    · refine ⟨hO (f.n 2), some (.int (i : Nat)), ?_, ⟨_, rfl⟩, .inr rfl⟩
      rw [h0] at e4
      simp -dsimp at e4
      simp -dsimp [e4, eqS_i]
    · have h0i : ¬ ((f.v 2 : Nat) : Int) = 0 := by omega
      refine ⟨hO (f.n 2), none, ?_, ⟨_, rfl⟩, .inl rfl⟩
      simp -dsimp [e4, eqS_i, h0, h0i]) (by simp; omega) (fun _ _ => rfl)
  simp -dsimp
  rw [hP]
  refine ⟨⟨mv, us⟩, g2, _, ⟨by show 1 ≤ mv.length; omega, by show mv.length ≤ 8; omega, fun p hp => by show p.1 < mv.length ∧ p.2 < mv.length; rw [hmv]; exact hmo p hp, fun e he => by
    show e < mv.length
    have := List.mem_range.mp (hus.subset he)
    omega, List.Pairwise.sublist hus List.pairwise_lt_range⟩, rfl⟩
/-- one arrow changed -/
theorem ma_bent {k most kd : Nat} {a5 a6 a7 : Option D} {M : Mc} (hM : M.ok) (h : Hd) (T : List O) (hkd : kd = 1 ∨ kd = 3) (hl : M.n ≤ most) :
    ∃ (M' : Mc) (g : Hd) (b6 : Option D), M'.ok ∧ evS tl.ct (callD tl.ct (k + 1)) maB.tl.tl.tl.tl.hd none [some (.ref 0), some (.int (most : Nat)), some (.int (kd : Nat)), some (mvD M.mv), some (tupI M.en), a5, a6, a7] (hO h :: T) =
      .nx [some (.ref 0), some (.int (most : Nat)), some (.int (kd : Nat)), some (mvD M'.mv), some (tupI M'.en), a5, b6, a7] (hO g :: T) := by
  have hn1 := hM.pos
  have hn8 := hM.le
  obtain ⟨n, hn⟩ : ∃ n, n = M.n := ⟨_, rfl⟩
  have hml : M.mv.length = n := hn.symm
  have e1 := e_draw (k := k) h (m := n) (T := T) (by omega) (by omega)
  have v1 := h.v_lt (m := n) (by omega)
  have e2 := e_draw (k := k) (h.n n) (m := n) (T := T) (by omega) (by omega)
  have v2 := (h.n n).v_lt (m := n) (by omega)
  have hlen : ∀ S, lenD [mvD M.mv] S = .ok (.int (n : Nat)) S := fun S => by rw [len_mv, hml]
  obtain ⟨c, hc⟩ : ∃ c, c = h.v n := ⟨_, rfl⟩
  obtain ⟨d, hd⟩ : ∃ d, d = (h.n n).v n := ⟨_, rfl⟩
  rw [← hc] at e1 v1
  rw [← hd] at e2 v2
  have hlm : ((n : Nat) : Int) ≤ (most : Nat) := by omega
  have hln : n ≤ most := by omega
  have e3 : ∀ S, idxD (mvD M.mv) (.int (c : Nat)) S = .ok (.tup [.int ((M.to c).1 : Nat), .int ((M.to c).2 : Nat)]) S := fun S => idx_mv (by omega)
  have e4 : ∀ S, sliceD (mvD M.mv) none (some (c : Nat)) S = .ok (.tup ((M.mv.take c).map mvP)) S := fun S => by
    show R.ok (D.tup (cutL (M.mv.map mvP) none (some ((c : Nat) : Int)))) S = _
    rw [cut_take (by simp; omega), List.map_take]
  have e5 : ∀ S, sliceD (mvD M.mv) (some ((c : Nat) + 1)) none S = .ok (.tup ((M.mv.drop (c + 1)).map mvP)) S := fun S => by
    show R.ok (D.tup (cutL (M.mv.map mvP) (some (((c : Nat) : Int) + 1)) none)) S = _
    rw [cut_drop1 (by simp; omega), List.map_drop]
  have hto := to_lt hM (show c < M.n by omega)
  have e6 : ∀ S, addD (.tup ((M.mv.take c).map mvP)) (.tup [.tup [.int (d : Nat), .int ((M.to c).2 : Nat)]]) S = .ok (.tup ((M.mv.take c ++ [(d, (M.to c).2)]).map mvP)) S := fun S => by
    rw [add_tup (by simp; omega), List.map_append]; rfl
  have e7 : ∀ S, addD (.tup ((M.mv.take c ++ [(d, (M.to c).2)]).map mvP)) (.tup ((M.mv.drop (c + 1)).map mvP)) S = .ok (.tup ((M.mv.take c ++ [(d, (M.to c).2)] ++ M.mv.drop (c + 1)).map mvP)) S := fun S => by
    rw [add_tup (by simp; omega), ← List.map_append]
  have hlen2 : (M.mv.take c ++ [(d, (M.to c).2)] ++ M.mv.drop (c + 1)).length = n := by simp; omega
  have hin : ∀ S, inDS false (.int (kd : Nat)) (.tup [.int 1, .int 3]) S = .ok (.bl true) S := fun S => by
    have := in_two (a := 1) (b := 3) (v := kd) (S := S)
    rw [decide_eq_true hkd] at this
    exact this
  refine ⟨⟨M.mv.take c ++ [(d, (M.to c).2)] ++ M.mv.drop (c + 1), M.en⟩, (h.n n).n n, some (.int (c : Nat)), ⟨by show 1 ≤ (M.mv.take c ++ [(d, (M.to c).2)] ++ M.mv.drop (c + 1)).length; omega, by show (M.mv.take c ++ [(d, (M.to c).2)] ++ M.mv.drop (c + 1)).length ≤ 8; omega, fun p hp => ?_, fun e he => ?_, hM.asc⟩, ?_⟩
  · show p.1 < (M.mv.take c ++ [(d, (M.to c).2)] ++ M.mv.drop (c + 1)).length ∧ p.2 < (M.mv.take c ++ [(d, (M.to c).2)] ++ M.mv.drop (c + 1)).length
    rw [hlen2]
    rcases List.mem_append.mp hp with hp | hp
    · rcases List.mem_append.mp hp with hp | hp
      · have := hM.mvlt p (List.mem_of_mem_take hp); omega
      · rw [List.mem_singleton.mp hp]; exact ⟨by dsimp only; omega, by dsimp only; omega⟩
    · have := hM.mvlt p (List.mem_of_mem_drop hp); omega
  · show e < (M.mv.take c ++ [(d, (M.to c).2)] ++ M.mv.drop (c + 1)).length
    rw [hlen2]
    have := hM.enlt e he; omega
  · generalize M.mv.take c ++ [(d, (M.to c).2)] = m1 at e6 e7
    generalize m1 ++ M.mv.drop (c + 1) = m2 at e7
    simp -dsimp [-List.map_take, -List.map_drop, Ss.hd, Ss.tl, maB, b_l_machine, nat_sz, hin, hlen, hlm, hln, e1, e2, e3, e4, e5, e6, e7]
    rfl
/-- _law_machine -/
theorem e_machine {k most : Nat} (h : Hd) (T : List O) (hm1 : 1 ≤ most) (hm8 : most ≤ 8) : ∃ (M : Mc) (g : Hd), M.ok ∧ callD tl.ct (k + 3) F_l_machine [.ref 0, .int (most : Nat)] (hO h :: T) = .ok (.tup [mvD M.mv, tupI M.en]) (hO g :: T) := by
  have e1 := e_drawI (k := k + 1) h 6 (i := 6) rfl (T := T) (by decide) (by decide)
  have v1 := h.v_lt (m := 6) (by decide)
  obtain ⟨M, g1, hM, e2⟩ := e_bits_machine (k := k) (h.n 6) T
  obtain ⟨kd, hkd⟩ : ∃ kd, kd = h.v 6 := ⟨_, rfl⟩
  rw [← hkd] at e1 v1
  rw [run_l_machine, show b_l_machine = maB from rfl, cut, show evS tl.ct (callD tl.ct (k + 2)) maB.hd none [some (.ref 0), some (.int (most : Nat)), none, none, none, none, none, none] (hO h :: T) = .nx [some (.ref 0), some (.int (most : Nat)), some (.int (kd : Nat)), none, none, none, none, none] (hO (h.n 6) :: T) by
    simp -dsimp [Ss.hd, Ss.tl, maB, b_l_machine, e1], fb_nx, cut, show evS tl.ct (callD tl.ct (k + 2)) maB.tl.hd none [some (.ref 0), some (.int (most : Nat)), some (.int (kd : Nat)), none, none, none, none, none] (hO (h.n 6) :: T) = .nx [some (.ref 0), some (.int (most : Nat)), some (.int (kd : Nat)), some (mvD M.mv), some (tupI M.en), none, none, none] (hO g1 :: T) by
    simp -dsimp [Ss.hd, Ss.tl, maB, b_l_machine, e2], fb_nx, cut]
  obtain ⟨Q, hQ⟩ := shut (fun (ρ : Env') (S : List O) => ∃ (M : Mc) (g : Hd) (x5 x6 x7 : Option D), M.ok ∧ ρ = [some (.ref 0), some (.int (most : Nat)), some (.int (kd : Nat)), some (mvD M.mv), some (tupI M.en), x5, x6, x7] ∧ S = hO g :: T)
  have fin : ∀ (f : Fl) (k2 : Env' → List O → Fl) (h : Nx Q f), ∃ ρ S, Q ρ S ∧ f.bind k2 = k2 ρ S := fun f k2 ⟨ρ, S, e, hq⟩ => ⟨ρ, S, hq, by rw [e, fb_nx]⟩
  have p3 : ∀ ρ S, Q ρ S → Nx Q (evS tl.ct (callD tl.ct (k + 2)) maB.tl.tl.hd none ρ S) := fun ρ S hq => by
    have hq2 := hq
    rw [hQ] at hq2
    obtain ⟨M, g, x5, x6, x7, hM, rfl, rfl⟩ := hq2
    have hin : ∀ S, inDS false (.int (kd : Nat)) (.tup [.int 2, .int 3]) S = .ok (.bl (decide (kd = 2 ∨ kd = 3))) S := fun S => in_two (a := 2) (b := 3) (v := kd) (S := S)
    by_cases hk : kd = 2 ∨ kd = 3
    · obtain ⟨M2, g2, hM2, e3⟩ := e_ring_machine (k := k) g T
      simp -dsimp [Ss.hd, Ss.tl, maB, b_l_machine, nat_sz, hin, hk, e3]
      refine Nx.mk ?_
      rw [hQ]
      exact ⟨M2, g2, _, _, _, hM2, rfl, rfl⟩
    · simp -dsimp [Ss.hd, Ss.tl, maB, b_l_machine, nat_sz, hin, hk]
      exact Nx.mk hq
  have p4 : ∀ ρ S, Q ρ S → Nx Q (evS tl.ct (callD tl.ct (k + 2)) maB.tl.tl.tl.hd none ρ S) := fun ρ S hq => by
    have hq2 := hq
    rw [hQ] at hq2
    obtain ⟨M, g, x5, x6, x7, hM, rfl, rfl⟩ := hq2
    by_cases hk : 3 < kd
    · obtain ⟨M2, g2, b5, hM2, e3⟩ := ma_drawn (k := k + 1) (most := most) (kd := kd) (a3 := some (mvD M.mv)) (a4 := some (tupI M.en)) (a5 := x5) (a6 := x6) (a7 := x7) g T hm1 hm8 hk
      rw [e3]
      refine Nx.mk ?_
      rw [hQ]
      exact ⟨M2, g2, _, _, _, hM2, rfl, rfl⟩
    · have hki : ¬ (3 : Int) < (kd : Nat) := by omega
      simp -dsimp [Ss.hd, Ss.tl, maB, b_l_machine, nat_sz, hk, hki]
      exact Nx.mk hq
  have p5 : ∀ ρ S, Q ρ S → Nx Q (evS tl.ct (callD tl.ct (k + 2)) maB.tl.tl.tl.tl.hd none ρ S) := fun ρ S hq => by
    have hq2 := hq
    rw [hQ] at hq2
    obtain ⟨M, g, x5, x6, x7, hM, rfl, rfl⟩ := hq2
    have hin : ∀ S, inDS false (.int (kd : Nat)) (.tup [.int 1, .int 3]) S = .ok (.bl (decide (kd = 1 ∨ kd = 3))) S := fun S => in_two (a := 1) (b := 3) (v := kd) (S := S)
    by_cases hk : kd = 1 ∨ kd = 3
    · by_cases hl : M.n ≤ most
      · obtain ⟨M2, g2, b6, hM2, e3⟩ := ma_bent (k := k + 1) (most := most) (kd := kd) (a5 := x5) (a6 := x6) (a7 := x7) hM g T hk hl
        rw [e3]
        refine Nx.mk ?_
        rw [hQ]
        exact ⟨M2, g2, _, _, _, hM2, rfl, rfl⟩
      · have hl : ¬ M.mv.length ≤ most := hl
        have hli : ¬ ((M.mv.length : Nat) : Int) ≤ (most : Nat) := by omega
        simp -dsimp [Ss.hd, Ss.tl, maB, b_l_machine, nat_sz, hin, hk, len_mv, hl, hli]
        exact Nx.mk hq
    · simp -dsimp [Ss.hd, Ss.tl, maB, b_l_machine, nat_sz, hin, hk]
      exact Nx.mk hq
  have hq0 : Q [some (.ref 0), some (.int (most : Nat)), some (.int (kd : Nat)), some (mvD M.mv), some (tupI M.en), none, none, none] (hO g1 :: T) := by
    rw [hQ]
    exact ⟨M, g1, _, _, _, hM, rfl, rfl⟩
  obtain ⟨ρ3, S3, hq3, e3⟩ := fin _ (fun ρ S => evSs tl.ct (callD tl.ct (k + 2)) maB.tl.tl.tl none ρ S) (p3 _ _ hq0)
  obtain ⟨ρ4, S4, hq4, e4⟩ := fin _ (fun ρ S => evSs tl.ct (callD tl.ct (k + 2)) maB.tl.tl.tl.tl none ρ S) (p4 _ _ hq3)
  obtain ⟨ρ5, S5, hq5, e5⟩ := fin _ (fun ρ S => evSs tl.ct (callD tl.ct (k + 2)) maB.tl.tl.tl.tl.tl none ρ S) (p5 _ _ hq4)
  rw [e3, cut, e4, cut, e5]
  rw [hQ] at hq5
  obtain ⟨M5, g5, x5, x6, x7, hM5, rfl, rfl⟩ := hq5
  refine ⟨M5, g5, hM5, ?_⟩
  simp -dsimp [Ss.tl, maB, b_l_machine, nat_sz]
  exact gcR_h (by rw [nr_tup, nrL_cons, nrL_cons, nr_tupI, nr_mv]; rfl)
end LK78
end
section
set_option Elab.async false
set_option linter.all false
set_option maxRecDepth 100000
set_option maxHeartbeats 1000000
set_option autoImplicit false
namespace LK78
open PySem PySem.Spec PyProof.Rows L2 Ev
/-! lists in the store -/
theorem ixN_nat {n i : Nat} (h : i < n) : ixN n (i : Int) = some i := by
  unfold ixN
  simp [h]
section
variable {S T : List O} {ds : List D} {w : D} {i n : Nat}
theorem set_at (h : S[n]? = some (.lst ds)) (hi : i < ds.length) : setD (.ref n) (.int (i : Nat)) w S = .ok () (S.set n (.lst (ds.set i w))) := by
  simp [setD, h, ixN_nat hi]
theorem set_top (hi : i < ds.length) : setD (.ref S.length) (.int (i : Nat)) w (S ++ [.lst ds]) = .ok () (S ++ [.lst (ds.set i w)]) := by
  rw [set_at (ds := ds) (by simp) hi]
  simp
theorem idx_at (h : S[n]? = some (.lst ds)) (hi : i < ds.length) : idxD (.ref n) (.int (i : Nat)) S = .ok ds[i] S := by
  simp [idxD, seqOf, rdL, Ev.listOf, h, at_nat hi]
theorem idx_top (hi : i < ds.length) : idxD (.ref S.length) (.int (i : Nat)) (S ++ [.lst ds]) = .ok ds[i] (S ++ [.lst ds]) := idx_at (by simp) hi
/-- a list that was made on the way, others behind it -/
theorem gcR_at {j : Nat} (ht : T[j]? = some (.lst ds)) (h : clL S.length ds = true) : gcR S (.ok (.ref (S.length + j)) (S ++ T)) = .ok (.lst ds) S := by
  refine gcR_keep ?_
  show frzN S.length (S ++ T) 6 (S.length + j) = _
  unfold frzN
  rw [if_neg (by omega)]
  have : (S ++ T)[S.length + j]? = some (.lst ds) := by rw [top_get]; exact ht
  rw [this]
  show (frzL _ ds).map _ = _
  rw [frz_idL (fun m hm => frzN_old 5 m hm) ds h]
  rfl
end
/-- d reads as a list that stays -/
def IdxL (S : List O) (d : D) (ds : List D) : Prop := ∀ (T : List O) (i : Nat) (h : i < ds.length), idxD d (.int (i : Nat)) (S ++ T) = .ok ds[i] (S ++ T)
theorem IdxL.lst {S : List O} {ds : List D} : IdxL S (.lst ds) ds := fun _ _ h => idx_nat h
theorem IdxL.ref {S : List O} {n : Nat} {ds : List D} (h : S[n]? = some (.lst ds)) : IdxL S (.ref n) ds := fun T i hi => idx_at (by rw [List.getElem?_append_left (get_lt h)]; exact h) hi
theorem lc_resS {α : Type} {S : List O} {g : D → List O → R (Option D)} {its : List D} {r : R D} (hr : gcR S (lcE [] g its S) = r) {xs : List α} (e : α → D) (f : α → D) (hi : its = xs.map e) (h : ∀ x ∈ xs, ∀ acc, g (e x) (S ++ [.lst acc]) = .ok (some (f x)) (S ++ [.lst acc])) (hz : xs.length ≤ 10000) (hn : ∀ x ∈ xs, nrD (f x) = true) : r = .ok (.lst (xs.map f)) S := by
  subst hr hi
  unfold lcE
  rw [lc_goG (gd := []) e (fun x => some (f x)) (fun acc => trivial) h (by simp [szl]; omega)]
  simp only [lcR_ok, List.nil_append, List.filterMap_eq_map']
  refine gcR_lst (nr_clL _ (nrL_all fun d hd => ?_))
  obtain ⟨x, hx, rfl⟩ := List.mem_map.mp hd
  exact hn x hx
/-- sums -/
def sm : Nat → (Nat → Int) → Int
  | 0, _ => 0
  | n + 1, h => sm n h + h n
theorem sm_congr {g h : Nat → Int} : ∀ {n : Nat}, (∀ s, s < n → g s = h s) → sm n g = sm n h
  | 0, _ => rfl
  | n + 1, e => by
    unfold sm
    rw [sm_congr fun s hs => e s (by omega), e n (by omega)]
theorem sm_add (g h : Nat → Int) : ∀ n : Nat, sm n (fun s => g s + h s) = sm n g + sm n h
  | 0 => rfl
  | n + 1 => by
    unfold sm
    rw [sm_add g h n]
    show _ + (g n + h n) = _
    omega
theorem sm_zero {g : Nat → Int} : ∀ {n : Nat}, (∀ s, s < n → g s = 0) → sm n g = 0
  | 0, _ => rfl
  | n + 1, e => by
    unfold sm
    rw [sm_zero fun s hs => e s (by omega), e n (by omega)]; rfl
theorem sm_one {g : Nat → Int} {t : Nat} : ∀ {n : Nat}, t < n → (∀ s, s < n → s ≠ t → g s = 0) → sm n g = g t
  | 0, h, _ => absurd h (Nat.not_lt_zero _)
  | n + 1, h, e => by
    unfold sm
    by_cases ht : t = n
    · subst ht
      rw [sm_zero fun s hs => e s (by omega) (by omega)]; omega
    · rw [sm_one (by omega) fun s hs => e s (by omega), e n (by omega) (by omega)]; omega
theorem sm_nn {g : Nat → Int} : ∀ {n : Nat}, (∀ s, s < n → 0 ≤ g s) → 0 ≤ sm n g
  | 0, _ => Int.le_refl _
  | n + 1, e => by
    unfold sm
    have := sm_nn fun s (hs : s < n) => e s (by omega)
    have := e n (by omega)
    omega
theorem sm_le {g : Nat → Int} {t : Nat} : ∀ {n : Nat}, t < n → (∀ s, s < n → 0 ≤ g s) → g t ≤ sm n g
  | 0, h, _ => absurd h (Nat.not_lt_zero _)
  | n + 1, h, e => by
    unfold sm
    have h2 := e n (by omega)
    by_cases ht : t = n
    · subst ht
      have := sm_nn fun s (hs : s < t) => e s (by omega)
      omega
    · have := sm_le (show t < n by omega) fun s hs => e s (by omega)
      omega
/-- one place of a list changed -/
theorem sm_set {W : List Int} {t : Nat} {v : Int} (f : Nat → Int) {n : Nat} (hn : n ≤ W.length) (ht : t < n) : sm n (fun s => (W.set t v).getD s 0 * f s) = sm n (fun s => W.getD s 0 * f s) + (v - W.getD t 0) * f t := by
  have e1 : ∀ s, s < n → (W.set t v).getD s 0 * f s = W.getD s 0 * f s + (if s = t then (v - W.getD t 0) * f t else 0) := fun s hs => by
    by_cases h : s = t
    · subst h
      rw [if_pos rfl]
      have : (W.set s v).getD s 0 = v := by
        rw [List.getD_eq_getElem?_getD, List.getElem?_set_self (by omega)]; rfl
      rw [this, Int.sub_mul]; omega
    · rw [if_neg h]
      have : (W.set t v).getD s 0 = W.getD s 0 := by
        rw [List.getD_eq_getElem?_getD, List.getElem?_set_ne (Ne.symm h), ← List.getD_eq_getElem?_getD]
      rw [this]; omega
  rw [sm_congr e1, sm_add (fun s => W.getD s 0 * f s) (fun s => if s = t then (v - W.getD t 0) * f t else 0), sm_one (g := fun s => if s = t then (v - W.getD t 0) * f t else 0) ht (fun s _ h => if_neg h), if_pos rfl]
def stp (M : Mc) (f : Nat → Int) (s : Nat) : Int := f (M.to s).1 + f (M.to s).2
def itr (M : Mc) : Nat → (Nat → Int) → Nat → Int
  | 0, f => f
  | z + 1, f => itr M z (stp M f)
theorem itr_cnt (M : Mc) : ∀ z j, itr M z (cnt M j) = cnt M (z + j)
  | 0, j => by rw [Nat.zero_add]; rfl
  | z + 1, j => by
    show itr M z (cnt M (j + 1)) = _
    rw [itr_cnt M z (j + 1)]
    congr 1
    omega
theorem itr_one (M : Mc) : ∀ (z : Nat) (c : Int) (s : Nat), itr M z (fun _ => c) s = 2 ^ z * c
  | 0, c, s => by show c = _; simp
  | z + 1, c, s => by
    show itr M z (fun _ => c + c) s = _
    rw [itr_one M z (c + c) s, Int.pow_succ, Int.mul_assoc]
    congr 1
    omega
theorem cnt_le (M : Mc) : ∀ L s, cnt M L s ≤ 2 ^ L
  | 0, s => by unfold cnt; split <;> decide
  | L + 1, s => by
    have h1 := cnt_le M L (M.to s).1
    have h2 := cnt_le M L (M.to s).2
    show cnt M L _ + cnt M L _ ≤ _
    rw [Int.pow_succ]; omega
end LK78
end
section
set_option Elab.async false
set_option linter.all false
set_option maxRecDepth 100000
set_option maxHeartbeats 1000000
set_option autoImplicit false
namespace LK78
open PySem PySem.Spec PyProof.Rows L2 Ev
/-- a lot -/
def lotD (rs : List (List Nat)) (L : Nat) : D := .ins C_Lot [A_rows, A_places, A_known] [.tup (rs.map D.str), .int (L : Nat), .dk [] []]
/-- rows of a lot -/
structure Rows (rs : List (List Nat)) (L : Nat) : Prop where
  bits : ∀ r ∈ rs, bits r ∧ r.length = L
  pos : 1 ≤ rs.length
  le : rs.length ≤ 64
  l1 : 1 ≤ L
  l10 : L ≤ 10
  nd : rs.Nodup
theorem nr_lot (rs : List (List Nat)) (L : Nat) : nrD (lotD rs L) = true := by
  show (nrL (rs.map D.str) && true) = true
  rw [nrL_map fun _ => rfl]; rfl
@[simp] theorem at_rows {rs : List (List Nat)} {L : Nat} {S : List O} : attrD tl.ct (lotD rs L) A_rows S = .ok (.tup (rs.map D.str)) S := rfl
@[simp] theorem at_places {rs : List (List Nat)} {L : Nat} {S : List O} : attrD tl.ct (lotD rs L) A_places S = .ok (.int (L : Nat)) S := rfl
/-- Lot(rows) -/
theorem e_Lot {k L : Nat} {rs : List (List Nat)} (h : Rows rs L) (S : List O) : gcR S (mkRun tl.ct (callD tl.ct (k + 2)) C_Lot [.lst (rs.map D.str)] S) = .ok (lotD (rs.mergeSort fun a b => leD (.str a) (.str b)) L) S := by
  have h1 := h.pos
  have h2 := h.le
  have hL1 := h.l1
  have hL2 := h.l10
  have hasc : ∀ r ∈ rs, asc r := fun r hr => bits_asc (h.bits r hr).1
  have hinit : callD tl.ct (k + 2) F_Lot___init__ [.ref S.length, .lst (rs.map D.str)] (S ++ [.ins C_Lot [] []]) = .ok .non (S ++ [.ins C_Lot [A_rows, A_places, A_known] [.tup ((rs.mergeSort fun a b => leD (.str a) (.str b)).map D.str), .int (L : Nat), .dk [] []]]) := by
    rw [run_Lot___init__]
    have c1 : (1 : Int) ≤ (rs.length : Nat) := by omega
    have c2 : ((rs.length : Nat) : Int) ≤ 64 := by omega
    simp -dsimp [b_Lot___init__, c1, c2, h1, h2, enmS, enm_zip]
    obtain ⟨r0, rr, hrs⟩ := List.exists_cons_of_length_pos (show 0 < rs.length by omega)
    have i0 : ∀ T, idxD (.lst (rs.map D.str)) (.int 0) T = .ok (.str r0) T := fun T => by
      rw [hrs]
      exact idx_nat (n := 0) (by simp)
    have hr0 := h.bits r0 (by rw [hrs]; simp)
    refine fr_foldK (P := fun g => gcR (S ++ [.ins C_Lot [] []]) (fin g) = R.ok .non (S ++ [.ins C_Lot [A_rows, A_places, A_known] [.tup ((rs.mergeSort fun a b => leD (.str a) (.str b)).map D.str), .int (L : Nat), .dk [] []]])) (fun q : List Nat × Nat => D.tup [.int (q.2 : Nat), .str q.1]) (fun (_ : Nat) ρ => ∃ a b, ρ = [some (.ref S.length), some (.lst (rs.map D.str)), a, b]) (fun z _ => z) (z := 0) ⟨_, _, rfl⟩ ?_ ?_
    · rintro ys ⟨r, i⟩ zs he ρ ⟨a, b, rfl⟩
      have hmem : (r, i) ∈ rs.zipIdx 0 := by rw [he]; simp
      obtain ⟨-, h4, h5⟩ := List.mem_zipIdx hmem
      simp at h4 h5
      have hrm : r ∈ rs := by rw [h5]; exact List.getElem_mem _
      obtain ⟨b1, b2⟩ := h.bits r hrm
      have c3 : (1 : Int) ≤ (L : Nat) := by omega
      have c4 : ((L : Nat) : Int) ≤ 10 := by omega
      have hni : r ∉ rs.take i := fun hm => by
        obtain ⟨j, hj, e⟩ := List.mem_iff_getElem.mp hm
        simp at hj e
        have := (List.getElem_inj h.nd).mp (e.trans h5)
        omega
      have hsl : ∀ T, sliceD (.lst (rs.map D.str)) none (some (i : Nat)) T = .ok (.lst ((rs.map D.str).take i)) T := fun T => by
        show R.ok (D.lst (cutL (rs.map D.str) none (some ((i : Nat) : Int)))) T = _
        rw [cutL_take (by simp; omega)]
      have hin : ∀ T, inDS false (.str r) (.lst ((rs.map D.str).take i)) T = .ok (.bl false) T := fun T => by
        rw [← List.map_take, in_strs (hasc r hrm) fun x hx => hasc x (List.mem_of_mem_take hx), decide_eq_false hni]; rfl
      refine ⟨_, [some (.ref S.length), some (.lst (rs.map D.str)), some (.int (i : Nat)), some (.str r)], rfl, ?_, _, _, rfl⟩
      simp -dsimp [e_is_row r _ (show r.length ≤ 10000 by omega) (hasc r hrm), show rowB r = true from List.all_eq_true.mpr b1, len_str (cs := r) (by omega), b2, c3, c4, hL1, hL2, i0, len_str (cs := r0) (by have := hr0.2; omega), hr0.2, hsl, hin]
    · rintro ρ2 ⟨a, b, rfl⟩
      have s1 := setF_top (t := tl.ct) (S := S) (C := C_Lot) (fs := []) (vs := []) (f := A_rows) (d := .tup ((rs.mergeSort fun a b => leD (.str a) (.str b)).map D.str)) rfl (by decide)
      have s2 := setF_top (t := tl.ct) (S := S) (C := C_Lot) (fs := [A_rows]) (vs := [.tup ((rs.mergeSort fun a b => leD (.str a) (.str b)).map D.str)]) (f := A_places) (d := .int (L : Nat)) rfl (by decide)
      have s3 := setF_top (t := tl.ct) (S := S) (C := C_Lot) (fs := [A_rows, A_places]) (vs := [.tup ((rs.mergeSort fun a b => leD (.str a) (.str b)).map D.str), .int (L : Nat)]) (f := A_known) (d := .dk [] []) rfl (by decide)
      rw [show ∀ d, putD [] [] A_rows d = ([A_rows], [d]) from fun d => rfl] at s1
      rw [show ∀ d e, putD [A_rows] [d] A_places e = ([A_rows, A_places], [d, e]) from fun d e => rfl] at s2
      rw [show ∀ d e f, putD [A_rows, A_places] [d, e] A_known f = ([A_rows, A_places, A_known], [d, e, f]) from fun d e f => rfl] at s3
      have hs : ∀ T, sortedD [.lst (rs.map D.str)] T = .ok (.lst ((rs.mergeSort fun a b => leD (.str a) (.str b)).map D.str)) T := fun T => srt_map (srt_strs hasc) (by omega)
      simp -dsimp [hs, s1, i0, len_str (cs := r0) (by have := hr0.2; omega), hr0.2, s2, s3]
      refine gcR_init rfl (nr_clL _ ?_)
      rw [nrL_cons, nr_tup, nrL_map fun _ => rfl]; rfl
  rw [mk_Lot, hinit, R.bind_ok, mkEnd_non]
  refine gcR_ins (nr_clL _ ?_)
  rw [nrL_cons, nr_tup, nrL_map fun _ => rfl]; rfl
/-- .. rows in order -/
theorem e_LotA {k L : Nat} {rs : List (List Nat)} (h : Rows rs L) (ha : rs.Pairwise (· < ·)) (S : List O) : gcR S (mkRun tl.ct (callD tl.ct (k + 2)) C_Lot [.lst (rs.map D.str)] S) = .ok (lotD rs L) S := by
  rw [e_Lot h, sort_asc ha]
end LK78
end
section
set_option Elab.async false
set_option linter.all false
set_option maxRecDepth 100000
set_option maxHeartbeats 1000000
set_option autoImplicit false
namespace LK78
open PySem PySem.Spec PyProof.Rows L2 Ev
/-- all rows with the states behind them -/
def stepA (M : Mc) (q : List Nat × Nat) : List (List Nat × Nat) := [(q.1 ++ [48], (M.to q.2).1), (q.1 ++ [49], (M.to q.2).2)]
def rwP (M : Mc) : Nat → List (List Nat × Nat)
  | 0 => [([], 0)]
  | z + 1 => (rwP M z).flatMap (stepA M)
def liveP (M : Mc) (j : Nat) (q : List Nat × Nat) : Bool := decide (q.2 ∈ lv M j)
theorem rwP_ok {M : Mc} (h : M.ok) : ∀ z, ∀ q ∈ rwP M z, q.2 < M.n ∧ bits q.1 ∧ q.1.length = z
  | 0, q, hq => by
    rw [List.mem_singleton.mp (show q ∈ [(([] : List Nat), 0)] from hq)]
    exact ⟨h.pos, fun c hc => (nomatch hc), rfl⟩
  | z + 1, q, hq => by
    obtain ⟨p, hp, h7⟩ := List.mem_flatMap.mp (show q ∈ (rwP M z).flatMap (stepA M) from hq)
    obtain ⟨h3, h4, h5⟩ := rwP_ok h z p hp
    have h6 := to_lt h h3
    have hb : ∀ c, bit c = true → bits (p.1 ++ [c]) := fun c hc d hd => by
      rcases List.mem_append.mp hd with hd | hd
      · exact h4 d hd
      · rw [List.mem_singleton.mp hd]; exact hc
    simp only [stepA, List.mem_cons, List.not_mem_nil, or_false] at h7
    rcases h7 with rfl | rfl
    · exact ⟨h6.1, hb 48 rfl, by simp [h5]⟩
    · exact ⟨h6.2, hb 49 rfl, by simp [h5]⟩
theorem rwP_len (M : Mc) : ∀ z, (rwP M z).length = 2 ^ z
  | 0 => rfl
  | z + 1 => by
    have ih := rwP_len M z
    have : ∀ l : List (List Nat × Nat), (l.flatMap (stepA M)).length = 2 * l.length := fun l => by
      induction l with
      | nil => rfl
      | cons q l ih => rw [List.flatMap_cons, List.length_append, ih, List.length_cons]; simp [stepA]; omega
    show ((rwP M z).flatMap (stepA M)).length = _
    rw [this, ih, Nat.pow_succ, Nat.mul_comm]
/-- a state behind which one is alive is alive -/
theorem live_up {M : Mc} {j s : Nat} (hs : s < M.n) (h : (M.to s).1 ∈ lv M j ∨ (M.to s).2 ∈ lv M j) : s ∈ lv M (j + 1) := lvA_mem.mpr ⟨hs, h⟩
theorem fdP_eq {M : Mc} (h : M.ok) (L : Nat) : ∀ z, z ≤ L → fdP M L z = (rwP M z).filter (liveP M (L - z))
  | 0, _ => by
    unfold fdP
    show _ = [(([] : List Nat), 0)].filter _
    by_cases h0 : 0 ∈ lv M L
    · rw [if_pos h0, List.filter_cons_of_pos (by simpa [liveP] using h0)]; rfl
    · rw [if_neg h0, List.filter_cons_of_neg (by simpa [liveP] using h0)]; rfl
  | z + 1, hz => by
    show stepF M (lv M (L - z - 1)) (fdP M L z) = ((rwP M z).flatMap (stepA M)).filter (liveP M (L - (z + 1)))
    rw [fdP_eq h L z (by omega), show L - z - 1 = L - (z + 1) by omega]
    have hok := rwP_ok h z
    generalize rwP M z = l at hok
    induction l with
    | nil => rfl
    | cons q l ih =>
      have ih := ih fun p hp => hok p (List.mem_cons_of_mem _ hp)
      have hq := (hok q List.mem_cons_self).1
      rw [List.flatMap_cons, List.filter_append, ← ih]
      by_cases hl : liveP M (L - z) q = true
      · rw [List.filter_cons_of_pos hl]
        rfl
      · rw [List.filter_cons_of_neg hl]
        have : (stepA M q).filter (liveP M (L - (z + 1))) = [] := by
          rw [List.filter_eq_nil_iff]
          intro p hp hlp
          refine hl ?_
          unfold liveP at hlp ⊢
          rw [show L - z = L - (z + 1) + 1 by omega]
          refine decide_eq_true (live_up hq ?_)
          have hlp := of_decide_eq_true hlp
          simp only [stepA, List.mem_cons, List.not_mem_nil, or_false] at hp
          rcases hp with rfl | rfl
          · exact .inl hlp
          · exact .inr hlp
        rw [this]; rfl
/-- the rows behind which it stands at an end -/
def accP (M : Mc) (L : Nat) : List (List Nat × Nat) := (rwP M L).filter fun q => decide (q.2 ∈ M.en)
def rowsP (M : Mc) (L : Nat) : List (List Nat) := (accP M L).map (·.1)
theorem fd_rows {M : Mc} (h : M.ok) (L : Nat) : (fdP M L L).map (fun q => D.str q.1) = (rowsP M L).map D.str := by
  rw [fdP_eq h L L (Nat.le_refl _), Nat.sub_self]
  unfold rowsP accP
  rw [List.map_map]
  rfl
theorem sum_cnt {M : Mc} : ∀ z j, ((rwP M z).map fun q => cnt M j q.2).sum = cnt M (z + j) 0
  | 0, j => by
    show cnt M j 0 + 0 = _
    rw [Nat.zero_add, Int.add_zero]
  | z + 1, j => by
    have ih := sum_cnt (M := M) z (j + 1)
    rw [show z + 1 + j = z + (j + 1) by omega, ← ih]
    show (((rwP M z).flatMap (stepA M)).map fun q => cnt M j q.2).sum = _
    generalize rwP M z = l
    induction l with
    | nil => rfl
    | cons q l ih2 =>
      rw [List.flatMap_cons, List.map_append, List.sum_append, ih2, List.map_cons, List.sum_cons]
      congr 1
      show cnt M j _ + (cnt M j _ + 0) = cnt M j _ + cnt M j _
      rw [Int.add_zero]
theorem rows_cnt (M : Mc) (L : Nat) : ((rowsP M L).length : Int) = cnt M L 0 := by
  have e := sum_cnt (M := M) L 0
  rw [Nat.add_zero] at e
  rw [← e]
  unfold rowsP accP
  rw [List.length_map]
  generalize rwP M L = l
  induction l with
  | nil => rfl
  | cons q l ih =>
    rw [List.map_cons, List.sum_cons, ← ih]
    by_cases hq : q.2 ∈ M.en
    · rw [List.filter_cons_of_pos (by simpa using hq)]
      show _ = (if q.2 ∈ M.en then (1 : Int) else 0) + _
      rw [if_pos hq]
      simp; omega
    · rw [List.filter_cons_of_neg (by simpa using hq)]
      show _ = (if q.2 ∈ M.en then (1 : Int) else 0) + _
      rw [if_neg hq]
      simp
theorem rw_asc {M : Mc} (h : M.ok) : ∀ z, ((rwP M z).map (·.1)).Pairwise (· < ·)
  | 0 => by simp [rwP]
  | z + 1 => by
    have ih := rw_asc h z
    have hok := rwP_ok h z
    show (((rwP M z).flatMap (stepA M)).map (·.1)).Pairwise (· < ·)
    generalize rwP M z = l at ih hok
    induction l with
    | nil => simp
    | cons q l ih2 =>
      rw [List.map_cons, List.pairwise_cons] at ih
      have ih3 := ih2 ih.2 fun p hp => hok p (List.mem_cons_of_mem _ hp)
      rw [List.flatMap_cons, List.map_append, List.pairwise_append]
      refine ⟨?_, ih3, ?_⟩
      · simp only [stepA, List.map_cons, List.map_nil, List.pairwise_cons, List.mem_cons, List.not_mem_nil, or_false, false_implies, implies_true, List.Pairwise.nil, and_true, forall_eq]
        exact lt_same q.1 (by decide)
      · intro a ha b hb
        obtain ⟨p, hp, rfl⟩ := List.mem_map.mp hb
        obtain ⟨p0, hp0, h7⟩ := List.mem_flatMap.mp hp
        have hlt := ih.1 p0.1 (List.mem_map.mpr ⟨p0, hp0, rfl⟩)
        have hl : q.1.length = p0.1.length := by rw [(hok q List.mem_cons_self).2.2, (hok p0 (List.mem_cons_of_mem _ hp0)).2.2]
        obtain ⟨q', hq', rfl⟩ := List.mem_map.mp ha
        simp only [stepA, List.mem_cons, List.not_mem_nil, or_false] at h7 hq'
        rcases h7 with rfl | rfl <;> rcases hq' with rfl | rfl <;> exact lt_append hl hlt
theorem rows_asc {M : Mc} (h : M.ok) (L : Nat) : (rowsP M L).Pairwise (· < ·) := List.Pairwise.sublist (List.Sublist.map _ List.filter_sublist) (rw_asc h L)
theorem asc_nodup {xs : List (List Nat)} (h : xs.Pairwise (· < ·)) : xs.Nodup := h.imp fun {a b} hab hE => by subst hE; exact List.lt_irrefl _ hab
theorem rows_bits {M : Mc} (h : M.ok) {L : Nat} {r : List Nat} (hr : r ∈ rowsP M L) : bits r ∧ r.length = L := by
  obtain ⟨q, hq, rfl⟩ := List.mem_map.mp hr
  have := rwP_ok h L q (List.mem_filter.mp hq).1
  exact ⟨this.2.1, this.2.2⟩
theorem rows_Rows {M : Mc} (h : M.ok) {L : Nat} (h1 : 1 ≤ L) (h2 : L ≤ 10) (h3 : (rowsP M L).length ≤ 64) (h4 : 1 ≤ (rowsP M L).length) : Rows (rowsP M L) L := ⟨fun r hr => rows_bits h hr, h4, h3, h1, h2, asc_nodup (rows_asc h L)⟩
/-- lot_of -/
theorem e_lot_of_many {k L : Nat} {M : Mc} (h : M.ok) (h1 : 1 ≤ L) (h2 : L ≤ 10) (h3 : 64 < (rowsP M L).length) (S : List O) : callD tl.ct (k + 4) F_lot_of [mcD M, .int (L : Nat)] S = .ex ⟨C_TooMany, [A_limit], [.int 64]⟩ S := by
  have hc := rows_cnt M L
  have h5 : (64 : Int) < cnt M L 0 := by omega
  rw [run_lot_of]
  simp -dsimp [b_lot_of, e_check_length (k := k + 1) (L := (L : Nat)) (a := 1) (b := 10) S (by omega) (by omega), e_many_of h (show L ≤ 200 by omega), h5]
  exact gcR_ex1 rfl
theorem e_lot_of_none {k L : Nat} {M : Mc} (h : M.ok) (h1 : 1 ≤ L) (h2 : L ≤ 10) (h3 : (rowsP M L).length = 0) (S : List O) : callD tl.ct (k + 4) F_lot_of [mcD M, .int (L : Nat)] S = .ok .non S := by
  have hc := rows_cnt M L
  have h5 : cnt M L 0 = 0 := by omega
  rw [run_lot_of]
  simp -dsimp [b_lot_of, e_check_length (k := k + 1) (L := (L : Nat)) (a := 1) (b := 10) S (by omega) (by omega), e_many_of h (show L ≤ 200 by omega), h5]
theorem e_lot_of {k L : Nat} {M : Mc} (h : M.ok) (h1 : 1 ≤ L) (h2 : L ≤ 10) (h3 : (rowsP M L).length ≤ 64) (h4 : 1 ≤ (rowsP M L).length) (S : List O) : callD tl.ct (k + 4) F_lot_of [mcD M, .int (L : Nat)] S = .ok (lotD (rowsP M L) L) S := by
  have hc := rows_cnt M L
  have h5 : ¬ (64 : Int) < cnt M L 0 := by omega
  have h6 : ¬ cnt M L 0 = 0 := by omega
  have e1 := e_rows_of (k := k) h h2 S
  rw [fd_rows h] at e1
  have e2 := e_LotA (k := k + 1) (rows_Rows h h1 h2 h3 h4) (rows_asc h L) S
  rw [run_lot_of]
  simp -dsimp [b_lot_of, e_check_length (k := k + 1) (L := (L : Nat)) (a := 1) (b := 10) S (by omega) (by omega), e_many_of h (show L ≤ 200 by omega), h5, h6, e1, e2]
  exact gcR_nr (nr_lot _ _)
end LK78
end
section
set_option Elab.async false
set_option linter.all false
set_option maxRecDepth 100000
set_option maxHeartbeats 1000000
set_option autoImplicit false
namespace LK78
open PySem PySem.Spec PyProof.Rows L2 Ev
theorem bit_or {c : Nat} (h : bit c = true) : c = 48 ∨ c = 49 := by
  unfold bit at h
  rcases Bool.or_eq_true_iff.mp h with h | h
  · exact .inl (beq_iff_eq.mp h)
  · exact .inr (beq_iff_eq.mp h)
theorem int_bit {c : Nat} {S : List O} (h : bit c = true) : intD [.str [c]] S = .ok (.int ((c - 48 : Nat) : Int)) S := by
  rcases bit_or h with rfl | rfl
  · have : PySem.intText? (mkS [48]) = some 0 := by decide +kernel
    show (match PySem.intText? (mkS [48]) with
      | some n => if [48].length ≤ 640 then R.ok (D.int n) S else .bad
      | none => .bad) = _
    rw [this]; rfl
  · have : PySem.intText? (mkS [49]) = some 1 := by decide +kernel
    show (match PySem.intText? (mkS [49]) with
      | some n => if [49].length ≤ 640 then R.ok (D.int n) S else .bad
      | none => .bad) = _
    rw [this]; rfl
end LK78
end
section
set_option Elab.async false
set_option linter.all false
set_option maxRecDepth 100000
set_option maxHeartbeats 1000000
set_option autoImplicit false
namespace LK78
open PySem PySem.Spec PyProof.Rows L2 Ev
section
variable {S : List O} {ds es : List D}
theorem ext_top (h : ds.length + es.length ≤ 100000) : methD .extend (.ref S.length) [.lst es] (S ++ [.lst ds]) = .ok .non (S ++ [.lst (ds ++ es)]) := by
  have h1 : (S ++ [O.lst ds])[S.length]? = some (.lst ds) := by simp
  show (match (S ++ [O.lst ds])[S.length]?, Ev.listOf (S ++ [O.lst ds]) (.lst es) with
      | some (.lst ds'), some es' => if ds'.length + es'.length ≤ sizeLine then R.ok D.non ((S ++ [O.lst ds]).set S.length (.lst (ds' ++ es'))) else .bad
      | _, _ => .bad) = _
  rw [h1]
  show (if ds.length + es.length ≤ sizeLine then R.ok D.non ((S ++ [O.lst ds]).set S.length (.lst (ds ++ es))) else .bad) = _
  rw [if_pos (by rw [szl]; omega)]
  simp
theorem at_ext_top : MT.at .extend (S ++ [.lst ds]) (.ref S.length) = true := at_app (ds := ds) (by simp)
end
theorem lc_resGM {α : Type} {S : List O} {gd : List (Nat × List D)} {g : D → List O → R (Option D)} {its : List D} {r : R D} (hr : gcR S (lcE gd g its S) = r) {xs : List α} (e : α → D) (f : α → Option D) (hi : its = xs.map e) (hg : ∀ T, gdOk (S ++ T) gd) (h : ∀ x ∈ xs, ∀ T, g (e x) T = .ok (f x) T) (hz : xs.length ≤ 10000) (hn : ∀ x ∈ xs, ∀ d, f x = some d → nrD d = true) : r = .ok (.lst (xs.filterMap f)) S := by
  subst hr hi
  unfold lcE
  rw [lc_goG e f (fun acc => hg _) (fun x hx acc => h x hx _) (by simp [szl]; omega)]
  simp only [lcR_ok, List.nil_append]
  refine gcR_lst (nr_clL _ (nrL_all fun d hd => ?_))
  obtain ⟨x, hx, h2⟩ := List.mem_filterMap.mp hd
  exact hn x hx d h2
theorem fm_flt {α β : Type} (p : α → Bool) (f : α → β) (xs : List α) : (xs.filterMap fun x => if p x = true then some (f x) else none) = (xs.filter p).map f := by
  induction xs with
  | nil => rfl
  | cons x xs ih =>
    by_cases h : p x = true
    · rw [List.filterMap_cons_some (b := f x) (by rw [if_pos h]), List.filter_cons_of_pos h, List.map_cons, ih]
    · rw [List.filterMap_cons_none (by rw [if_neg h]), List.filter_cons_of_neg h, ih]
theorem lc_resGF {α : Type} {S : List O} {gd : List (Nat × List D)} {g : D → List O → R (Option D)} {its : List D} {r : R D} (hr : gcR S (lcE gd g its S) = r) {xs : List α} (e : α → D) (p : α → Bool) (f : α → D) (hi : its = xs.map e) (hg : ∀ T, gdOk (S ++ T) gd) (h : ∀ x ∈ xs, ∀ T, g (e x) T = .ok (if p x = true then some (f x) else none) T) (hz : xs.length ≤ 10000) (hn : ∀ x ∈ xs, nrD (f x) = true) : r = .ok (.lst ((xs.filter p).map f)) S := by
  have := lc_resGM hr e (fun x => if p x = true then some (f x) else none) hi hg h hz (fun x hx d hd => by
    by_cases hp : p x = true
    · rw [if_pos hp] at hd; cases hd; exact hn x hx
    · rw [if_neg hp] at hd; cases hd)
  rw [this, fm_flt]
def lrB : Ss := b_l_rows_of.tl.hd.body
/-- a row's turn -/
theorem lr_turn {k L s i : Nat} {M : Mc} {r : List Nat} (hs : s < M.n) (hr : r.length ≤ 1000) {fd : D} {x : Option D} {U : List O} {acc : List D} (hacc : acc.length ≤ 10000) :
    ∃ x', evSs tl.ct (callD tl.ct k) lrB.tl.hd.body none [some (mvD M.mv), some (tupI M.en), some (.int (L : Nat)), some fd, some (.int (i : Nat)), some (.ref U.length), some (.str r), some (.int (s : Nat)), x] (U ++ [.lst acc]) =
      .nx [some (mvD M.mv), some (tupI M.en), some (.int (L : Nat)), some fd, some (.int (i : Nat)), some (.ref U.length), some (.str r), some (.int (s : Nat)), x'] (U ++ [.lst (acc ++ (stepA M (r, s)).map pD)]) := by
  refine ⟨x, ?_⟩
  simp -dsimp [lrB, Ev.S.body, Ss.tl, Ss.hd, b_l_rows_of, at_ext_top]
  generalize hg : gcR _ (lcE _ _ _ _) = q
  have hg := lc_resV hg (fun c : Nat => D.str [c]) (fun c => pD (r ++ [c], if c = 48 then (M.to s).1 else (M.to s).2)) (xs := [48, 49]) rfl (fun c hc T => by
    have a1 : addD (.str r) (.str [c]) T = .ok (.str (r ++ [c])) T := add_str (by simp; omega)
    have hb : bit c = true := by
      simp only [List.mem_cons, List.not_mem_nil, or_false] at hc
      rcases hc with rfl | rfl <;> rfl
    have ib := int_bit (S := T) hb
    simp only [List.mem_cons, List.not_mem_nil, or_false] at hc
    rcases hc with rfl | rfl
    · simp -dsimp at ib
      simp -dsimp [a1, idx_mv hs, ib, nat_sz, pD]
    · simp -dsimp at ib
      simp -dsimp [a1, idx_mv hs, ib, nat_sz, pD]) (by simp) (fun _ _ => rfl)
  subst hg
  simp -dsimp [ext_top (S := U) (ds := acc) (es := [pD (r ++ [48], (M.to s).1), pD (r ++ [49], (M.to s).2)]) (by simp; omega), stepA]
/-- _law_rows_of -/
theorem e_l_rows_of {k L : Nat} {M : Mc} (h : M.ok) (hL : L ≤ 10) (S : List O) : callD tl.ct (k + 1) F_l_rows_of [mvD M.mv, tupI M.en, .int (L : Nat)] S = .ok (.lst ((rowsP M L).map D.str)) S := by
  rw [run_l_rows_of, cut, show evS tl.ct (callD tl.ct k) b_l_rows_of.hd none [some (mvD M.mv), some (tupI M.en), some (.int (L : Nat)), none, none, none, none, none, none] S = .nx [some (mvD M.mv), some (tupI M.en), some (.int (L : Nat)), some (.lst ((rwP M 0).map pD)), none, none, none, none, none] S by
    simp -dsimp [Ss.hd, b_l_rows_of, nat_sz, rwP, pD], fb_nx, cut]
  obtain ⟨J, hJ⟩ := shut (fun (z : Nat) (ρ : Env') (S' : List O) => ∃ fd a b c d e, ρ = [some (mvD M.mv), some (tupI M.en), some (.int (L : Nat)), some fd, a, b, c, d, e] ∧ (∃ Ls, S' = S ++ Ls) ∧ SrcL S' fd ((rwP M z).map pD))
  have hrg := rng_0 (n := L) (S := S) (by omega)
  have hfor : evS tl.ct (callD tl.ct k) b_l_rows_of.tl.hd none [some (mvD M.mv), some (tupI M.en), some (.int (L : Nat)), some (.lst ((rwP M 0).map pD)), none, none, none, none, none] S = frGo [] (.nm 4) (fun ρ S => evSs tl.ct (callD tl.ct k) lrB none ρ S) ((List.range L).map fun i => D.int (i : Nat)) [some (mvD M.mv), some (tupI M.en), some (.int (L : Nat)), some (.lst ((rwP M 0).map pD)), none, none, none, none, none] S := by
    simp -dsimp [Ss.hd, Ss.tl, b_l_rows_of, hrg]
    rfl
  rw [hfor]
  refine fr_NK (P := fun g => gcR S (fin g) = R.ok (.lst ((rowsP M L).map D.str)) S) (fun i : Nat => D.int (i : Nat)) J (fun z _ => z + 1) (z := 0) (by rw [hJ]; exact ⟨_, _, _, _, _, _, rfl, ⟨[], by simp⟩, SrcL.lst⟩) ?_ ?_
  · intro ys i zs he ρ S1 hh
    have hi := range_at he
    rw [foldl_cnt, Nat.zero_add] at hh ⊢
    rw [← hi.1] at hh ⊢
    rw [hJ] at hh
    obtain ⟨fd, a, b, c, d, e, rfl, ⟨Ls, rfl⟩, hsrc⟩ := hh
    refine ⟨_, rfl, ?_⟩
    simp only [List.set_cons_succ, List.set_cons_zero]
    generalize hU : S ++ Ls = U at hsrc ⊢
    rw [cut, show evS tl.ct (callD tl.ct k) lrB.hd none [some (mvD M.mv), some (tupI M.en), some (.int (L : Nat)), some fd, some (.int (i : Nat)), b, c, d, e] U = .nx [some (mvD M.mv), some (tupI M.en), some (.int (L : Nat)), some fd, some (.int (i : Nat)), some (.ref U.length), c, d, e] (U ++ [.lst []]) by
      simp -dsimp [lrB, Ev.S.body, Ss.hd, Ss.tl, b_l_rows_of, nat_sz], fb_nx, cut]
    obtain ⟨gd, g1, g2⟩ := hsrc
    have hfl := rwP_len M i
    have hp : 2 ^ i ≤ 2 ^ 10 := Nat.pow_le_pow_right (by decide) (by omega)
    have hfor2 : evS tl.ct (callD tl.ct k) lrB.tl.hd none [some (mvD M.mv), some (tupI M.en), some (.int (L : Nat)), some fd, some (.int (i : Nat)), some (.ref U.length), c, d, e] (U ++ [.lst []]) = frGo gd (.tup (.cons (.nm 6) (.cons (.nm 7) .nil))) (fun ρ S => evSs tl.ct (callD tl.ct k) lrB.tl.hd.body none ρ S) ((rwP M i).map pD) [some (mvD M.mv), some (tupI M.en), some (.int (L : Nat)), some fd, some (.int (i : Nat)), some (.ref U.length), c, d, e] (U ++ [.lst []]) := by
      have hs := g1 [.lst []]
      conv => lhs; simp -dsimp [lrB, Ev.S.body, Ss.hd, Ss.tl, b_l_rows_of, hs]
      rfl
    rw [hfor2]
    obtain ⟨J2, hJ2⟩ := shut (fun (z : List (List Nat × Nat)) (ρ : Env') (S' : List O) => ∃ c d e, ρ = [some (mvD M.mv), some (tupI M.en), some (.int (L : Nat)), some fd, some (.int (i : Nat)), some (.ref U.length), c, d, e] ∧ S' = U ++ [.lst ((z.flatMap (stepA M)).map pD)])
    have hloop := fr_N (gd := gd) (b := fun ρ S => evSs tl.ct (callD tl.ct k) lrB.tl.hd.body none ρ S) (t := .tup (.cons (.nm 6) (.cons (.nm 7) .nil))) pD J2 (fun z q => z ++ [q]) (fun z ρ S' hz => by
      rw [hJ2] at hz
      obtain ⟨_, _, _, _, rfl⟩ := hz
      exact g2 _) (xs := rwP M i) (z := []) (ρ := [some (mvD M.mv), some (tupI M.en), some (.int (L : Nat)), some fd, some (.int (i : Nat)), some (.ref U.length), c, d, e]) (S := U ++ [.lst []]) (by rw [hJ2]; exact ⟨_, _, _, rfl, rfl⟩) (by
      intro us q vs hq ρ S3 hh3
      rw [foldl_snoc, List.nil_append] at hh3 ⊢
      rw [hJ2] at hh3
      obtain ⟨c, d, e, rfl, rfl⟩ := hh3
      obtain ⟨q1, q2, q3⟩ := rwP_ok h i q (by rw [hq]; simp)
      have hus : us.length ≤ 1024 := by
        have : (rwP M i).length = (us ++ q :: vs).length := by rw [hq]
        simp at this; omega
      have hsl : (us.flatMap (stepA M)).length ≤ 2 * us.length := by
        clear hq
        induction us with
        | nil => simp
        | cons u us ih =>
          have := ih (by simp at hus; omega)
          rw [List.flatMap_cons, List.length_append, List.length_cons]
          simp only [stepA, List.length_cons, List.length_nil]
          omega
      obtain ⟨x', e1⟩ := lr_turn (k := k) (L := L) (i := i) (M := M) q1 (r := q.1) (by omega) (fd := fd) (x := e) (U := U) (acc := (us.flatMap (stepA M)).map pD) (by rw [List.length_map]; omega)
      refine ⟨_, rfl, ?_⟩
      simp only [List.set_cons_succ, List.set_cons_zero]
      rw [e1]
      refine Nx.mk ?_
      rw [hJ2]
      exact ⟨_, _, _, rfl, by rw [List.flatMap_append, List.map_append]; simp⟩)
    obtain ⟨ρ2, S2, e2, hj2⟩ := hloop
    rw [foldl_snoc, List.nil_append, hJ2] at hj2
    obtain ⟨c2, d2, e3, rfl, rfl⟩ := hj2
    rw [e2, fb_nx]
    simp -dsimp [lrB, Ev.S.body, Ss.hd, Ss.tl, b_l_rows_of]
    refine Nx.mk ?_
    rw [hJ]
    refine ⟨_, _, _, _, _, _, rfl, ⟨Ls ++ [.lst (((rwP M i).flatMap (stepA M)).map pD)], by rw [← hU, List.append_assoc]⟩, ?_⟩
    exact SrcL.ref (ds := (rwP M (i + 1)).map pD) (by simp; rfl)
  · intro ρ2 S2 hh
    rw [foldl_cnt, Nat.zero_add, List.length_range, hJ] at hh
    obtain ⟨fd, a, b, c, d, e, rfl, ⟨Ls, rfl⟩, gd, g1, g2⟩ := hh
    have hs := g1 []
    rw [List.append_nil] at hs
    simp -dsimp [Ss.tl, b_l_rows_of, hs]
    generalize hr : gcR _ (lcE _ _ _ _) = r
    have hfl := rwP_len M L
    have hp : 2 ^ L ≤ 2 ^ 10 := Nat.pow_le_pow_right (by decide) (by omega)
    have hr := lc_resGF hr pD (fun q => decide (q.2 ∈ M.en)) (fun q => .str q.1) rfl g2 (fun q _ T => by by_cases hq : q.2 ∈ M.en <;> simp -dsimp [pD, in_en, hq]) (by omega) (fun _ _ => rfl)
    subst hr
    simp -dsimp
    rw [show ((rwP M L).filter fun q => decide (q.2 ∈ M.en)).map (fun q => D.str q.1) = (rowsP M L).map D.str by unfold rowsP accP; rw [List.map_map]; rfl]
    exact gcR_val (nr_cl _ (nrL_map fun _ => rfl))
end LK78
end
section
set_option Elab.async false
set_option linter.all false
set_option maxRecDepth 100000
set_option maxHeartbeats 1000000
set_option autoImplicit false
namespace LK78
open PySem PySem.Spec PyProof.Rows L2 Ev
theorem e_told_many {k L : Nat} {M : Mc} (h : M.ok) (h1 : 1 ≤ L) (h2 : L ≤ 10) (h3 : 64 < (rowsP M L).length) (S : List O) : callD tl.ct (k + 5) F_l_told [mcD M, .int (L : Nat)] S = .ok (.tup [.str [109, 97, 110, 121], .int 64]) S := by
  rw [run_l_told]
  simp -dsimp [b_l_told, e_lot_of_many h h1 h2 h3, nat_sz, lookF]
  exact gcR_nr rfl
theorem e_told_none {k L : Nat} {M : Mc} (h : M.ok) (h1 : 1 ≤ L) (h2 : L ≤ 10) (h3 : (rowsP M L).length = 0) (S : List O) : callD tl.ct (k + 5) F_l_told [mcD M, .int (L : Nat)] S = .ok .non S := by
  rw [run_l_told]
  simp -dsimp [b_l_told, e_lot_of_none h h1 h2 h3, nat_sz]
theorem e_told_lot {k L : Nat} {M : Mc} (h : M.ok) (h1 : 1 ≤ L) (h2 : L ≤ 10) (h3 : (rowsP M L).length ≤ 64) (h4 : 1 ≤ (rowsP M L).length) (S : List O) : callD tl.ct (k + 5) F_l_told [mcD M, .int (L : Nat)] S = .ok (lotD (rowsP M L) L) S := by
  rw [run_l_told]
  simp -dsimp [b_l_told, e_lot_of h h1 h2 h3 h4, nat_sz]
  exact gcR_nr (nr_lot _ _)
def wsB : Ss := b_l_ways.tl.hd.body
def wsI : Ss := wsB.tl.hd.body
/-- a state's turn -/
theorem ws_turn {k s : Nat} {M : Mc} (h : M.ok) (hs : s < M.n) {a1 a3 x6 : Option D} {fd : D} {U : List O} {W V : List Int} (hW : W.length = M.n) (hV : V.length = M.n) (hfd : IdxL U fd (W.map D.int)) :
    ∃ (V' : List Int) (x6' : Option D), V'.length = M.n ∧ (∀ f, sm M.n (fun t => V'.getD t 0 * f t) = sm M.n (fun t => V.getD t 0 * f t) + W.getD s 0 * stp M f s) ∧ evSs tl.ct (callD tl.ct k) wsI none [some (mvD M.mv), a1, some fd, a3, some (.ref U.length), some (.int (s : Nat)), x6] (U ++ [.lst (V.map D.int)]) =
      .nx [some (mvD M.mv), a1, some fd, a3, some (.ref U.length), some (.int (s : Nat)), x6'] (U ++ [.lst (V'.map D.int)]) := by
  obtain ⟨t1, t2⟩ := to_lt h hs
  obtain ⟨p, hp⟩ : ∃ p, p = (M.to s).1 := ⟨_, rfl⟩
  obtain ⟨q, hq⟩ : ∃ q, q = (M.to s).2 := ⟨_, rfl⟩
  obtain ⟨v, hv⟩ : ∃ v, v = W.getD s 0 := ⟨_, rfl⟩
  have i1 : ∀ T, idxD fd (.int (s : Nat)) (U ++ T) = .ok (.int v) (U ++ T) := fun T => by
    rw [hfd T s (by rw [List.length_map]; omega), hv, List.getElem_map, List.getD_eq_getElem?_getD, List.getElem?_eq_getElem (by omega)]; rfl
  have i2 : ∀ (X : List Int) (t : Nat), t < X.length → idxD (.ref U.length) (.int (t : Nat)) (U ++ [.lst (X.map D.int)]) = .ok (.int (X.getD t 0)) (U ++ [.lst (X.map D.int)]) := fun X t ht => by
    rw [idx_top (by rw [List.length_map]; exact ht), List.getElem_map, List.getD_eq_getElem?_getD, List.getElem?_eq_getElem ht]; rfl
  have i3 : ∀ (X : List Int) (t : Nat) (y : Int), t < X.length → setD (.ref U.length) (.int (t : Nat)) (.int y) (U ++ [.lst (X.map D.int)]) = .ok () (U ++ [.lst ((X.set t y).map D.int)]) := fun X t y ht => by
    rw [set_top (by rw [List.length_map]; exact ht), List.map_set]
  have e0 := fun S => idx_mv (S := S) hs
  rw [← hp, ← hq] at e0
  rw [← hp] at t1
  rw [← hq] at t2
  obtain ⟨X, hX⟩ : ∃ X, X = V.set p (V.getD p 0 + v) := ⟨_, rfl⟩
  have hXl : X.length = M.n := by rw [hX, List.length_set, hV]
  have j1 := i2 V p (by omega)
  have j2 := i3 V p (V.getD p 0 + v) (by omega)
  rw [← hX] at j2
  have j3 := i2 X q (by omega)
  have j4 := i3 X q (X.getD q 0 + v) (by omega)
  refine ⟨X.set q (X.getD q 0 + v), some (.int (q : Nat)), by rw [List.length_set, hXl], fun f => ?_, ?_⟩
  · rw [sm_set f (by omega) (by omega), hX, sm_set f (by omega) (by omega), ← hX]
    unfold stp
    rw [← hp, ← hq, ← hv, Int.mul_add]
    have e1 : X.getD q 0 + v - X.getD q 0 = v := by omega
    have e2 : V.getD p 0 + v - V.getD p 0 = v := by omega
    rw [e1, e2]; omega
  · generalize V.getD p 0 = y1 at j1 j2 hX
    generalize X.getD q 0 = y2 at j3 j4
    generalize V.map D.int = dV at j1 j2
    generalize X.map D.int = dX at j2 j3 j4
    generalize (X.set q (y2 + v)).map D.int = dY at j4
    simp -dsimp [wsI, wsB, Ev.S.body, Ss.hd, Ss.tl, b_l_ways, e0, i1, j1, j2, j3, j4]
end LK78
end
section
set_option Elab.async false
set_option linter.all false
set_option maxRecDepth 100000
set_option maxHeartbeats 1000000
set_option autoImplicit false
namespace LK78
open PySem PySem.Spec PyProof.Rows L2 Ev
theorem rep_one {α : Type} (x : α) : ∀ n : Nat, repL n [x] = List.replicate n x
  | 0 => rfl
  | n + 1 => by
    have ih := rep_one x n
    unfold repL at ih ⊢
    rw [List.replicate_succ, List.flatten_cons, ih]; rfl
theorem mul_zero' {z : Bool} {m : Nat} {x : D} {S : List O} (h : m ≤ 100000) : mulLD z (.lst [x]) (.int (m : Nat)) S = mkL z (List.replicate m x) S := by
  show (if (0 : Int) ≤ (m : Int) ∧ (m : Int) ≤ 100000 ∧ [x].length ≤ 100 then mkL z (repL (m : Int).toNat [x]) S else .bad) = _
  rw [if_pos ⟨by omega, by omega, by simp⟩, Int.toNat_natCast, rep_one]
theorem sm_first (f : Nat → Int) {n : Nat} (h : 1 ≤ n) : sm n (fun s => ((1 : Int) :: List.replicate (n - 1) 0).getD s 0 * f s) = f 0 := by
  rw [sm_one (t := 0) (by omega) fun s hs h0 => by
    have : ((1 : Int) :: List.replicate (n - 1) 0).getD s 0 = 0 := by
      obtain ⟨r, rfl⟩ := Nat.exists_eq_succ_of_ne_zero h0
      rw [List.getD_cons_succ, List.getD_eq_getElem?_getD]
      simp [List.getElem?_replicate]
      split <;> rfl
    rw [this]; omega]
  show (1 : Int) * f 0 = _
  omega
theorem sm_zeros (f : Nat → Int) {m : Nat} : ∀ {n : Nat}, sm n (fun s => (List.replicate m (0 : Int)).getD s 0 * f s) = 0 := fun {n} => sm_zero fun s hs => by
  have : (List.replicate m (0 : Int)).getD s 0 = 0 := by
    rw [List.getD_eq_getElem?_getD]
    simp [List.getElem?_replicate]
    split <;> rfl
  rw [this]; omega
/-- ways of a length, as this law counts -/
structure WaysL (M : Mc) (L : Nat) (W : List Int) : Prop where
  len : W.length = M.n
  dot : ∀ f, sm M.n (fun s => W.getD s 0 * f s) = itr M L f 0
def FdL (S Ls : List O) (fd : D) (ds : List D) : Prop := fd = .lst ds ∨ ∃ j, fd = .ref (S.length + j) ∧ Ls[j]? = some (.lst ds)
/-- _law_ways -/
theorem e_ways {k L : Nat} {M : Mc} (h : M.ok) (hL : L ≤ 1000) (S : List O) : ∃ W : List Int, WaysL M L W ∧ callD tl.ct (k + 1) F_l_ways [mvD M.mv, .int (L : Nat)] S = .ok (.lst (W.map D.int)) S := by
  have hn1 := h.pos
  have hn8 := h.le
  obtain ⟨n, hn⟩ : ∃ n, n = M.n := ⟨_, rfl⟩
  have hml : M.mv.length = n := hn.symm
  have hlen : ∀ S, lenD [mvD M.mv] S = .ok (.int (n : Nat)) S := fun S => by rw [len_mv, hml]
  have hsub : ((n : Nat) : Int) - 1 = ((n - 1 : Nat) : Int) := by omega
  have hm1 : ∀ z S, mulLD z (.lst [.int 0]) (.int ((n - 1 : Nat) : Int)) S = mkL z (List.replicate (n - 1) (.int 0)) S := fun z S => mul_zero' (by omega)
  have hm2 : ∀ z S, mulLD z (.lst [.int 0]) (.int (n : Nat)) S = mkL z (List.replicate n (.int 0)) S := fun z S => mul_zero' (by omega)
  have hk1 : ∀ ds S, mkL false ds S = .ok (.lst ds) S := fun ds S => rfl
  have hk2 : ∀ ds S, mkL true ds S = .ok (.ref S.length) (S ++ [.lst ds]) := fun ds S => rfl
  rw [run_l_ways, cut]
  have p0 : evS tl.ct (callD tl.ct k) b_l_ways.hd none [some (mvD M.mv), some (.int (L : Nat)), none, none, none, none, none] S = .nx [some (mvD M.mv), some (.int (L : Nat)), some (.lst (((1 : Int) :: List.replicate (n - 1) 0).map D.int)), none, none, none, none] S := by
    have ha : ∀ S, addD (.lst [.int 1]) (.lst (List.replicate (n - 1) (.int 0))) S = .ok (.lst (((1 : Int) :: List.replicate (n - 1) 0).map D.int)) S := fun S => by
      rw [add_lst (by simp; omega)]
      simp
    simp -dsimp [Ss.hd, b_l_ways, nat_sz, hlen, hsub, hm1, hk1, ha]
  rw [p0, fb_nx, cut]
  have hrg := rng_0 (n := L) (S := S) (by omega)
  have hfor : ∀ w, evS tl.ct (callD tl.ct k) b_l_ways.tl.hd none [some (mvD M.mv), some (.int (L : Nat)), w, none, none, none, none] S = frGo [] (.nm 3) (fun ρ S => evSs tl.ct (callD tl.ct k) wsB none ρ S) ((List.range L).map fun i => D.int (i : Nat)) [some (mvD M.mv), some (.int (L : Nat)), w, none, none, none, none] S := fun w => by
    simp -dsimp [Ss.hd, Ss.tl, b_l_ways, hrg]
    rfl
  rw [hfor]
  obtain ⟨J, hJ⟩ := shut (fun (z : Nat) (ρ : Env') (S' : List O) => ∃ (fd : D) (a3 a4 a5 a6 : Option D) (Ls : List O) (W : List Int), ρ = [some (mvD M.mv), some (.int (L : Nat)), some fd, a3, a4, a5, a6] ∧ S' = S ++ Ls ∧ FdL S Ls fd (W.map D.int) ∧ WaysL M z W)
  obtain ⟨P, hP⟩ := shut (fun f : Fl => ∃ W : List Int, WaysL M L W ∧ gcR S (fin f) = .ok (.lst (W.map D.int)) S)
  suffices hh : P ((frGo [] (.nm 3) (fun ρ S => evSs tl.ct (callD tl.ct k) wsB none ρ S) ((List.range L).map fun i => D.int (i : Nat)) [some (mvD M.mv), some (.int (L : Nat)), some (.lst (((1 : Int) :: List.replicate (n - 1) 0).map D.int)), none, none, none, none] S).bind fun ρ S => evSs tl.ct (callD tl.ct k) b_l_ways.tl.tl none ρ S) by
    rw [hP] at hh; exact hh
  refine fr_NK (P := P) (fun i : Nat => D.int (i : Nat)) J (fun z _ => z + 1) (z := 0) ?_ ?_ ?_
  · rw [hJ]
    exact ⟨_, _, _, _, _, [], _, rfl, by simp, .inl rfl, by simp; omega, fun f => by rw [← hn]; exact sm_first f (by omega)⟩
  · intro ys i zs he ρ S1 hh
    have hi := range_at he
    rw [foldl_cnt, Nat.zero_add] at hh ⊢
    rw [← hi.1] at hh ⊢
    rw [hJ] at hh
    obtain ⟨fd, a3, a4, a5, a6, Ls, W, rfl, rfl, hfd, hW⟩ := hh
    refine ⟨_, rfl, ?_⟩
    simp only [List.set_cons_succ, List.set_cons_zero]
    have hIdx : IdxL (S ++ Ls) fd (W.map D.int) := by
      rcases hfd with rfl | ⟨j, rfl, hj⟩
      · exact IdxL.lst
      · exact IdxL.ref (by rw [top_get]; exact hj)
    generalize hU : S ++ Ls = U at hIdx
    rw [cut, show evS tl.ct (callD tl.ct k) wsB.hd none [some (mvD M.mv), some (.int (L : Nat)), some fd, some (.int (i : Nat)), a4, a5, a6] U = .nx [some (mvD M.mv), some (.int (L : Nat)), some fd, some (.int (i : Nat)), some (.ref U.length), a5, a6] (U ++ [.lst ((List.replicate n (0 : Int)).map D.int)]) by
      simp -dsimp [wsB, Ev.S.body, Ss.hd, Ss.tl, b_l_ways, nat_sz, hlen, hm2, hk2], fb_nx, cut]
    have hrg2 : ∀ S, rngS (.int 0) (.int (n : Nat)) S = .ok ⟨(List.range n).map fun i => D.int (i : Nat), []⟩ S := fun S => rng_0 (by omega)
    have hfor2 : ∀ S', evS tl.ct (callD tl.ct k) wsB.tl.hd none [some (mvD M.mv), some (.int (L : Nat)), some fd, some (.int (i : Nat)), some (.ref U.length), a5, a6] S' = frGo [] (.nm 5) (fun ρ S => evSs tl.ct (callD tl.ct k) wsI none ρ S) ((List.range n).map fun i => D.int (i : Nat)) [some (mvD M.mv), some (.int (L : Nat)), some fd, some (.int (i : Nat)), some (.ref U.length), a5, a6] S' := fun S' => by
      conv => lhs; simp -dsimp [wsB, Ev.S.body, Ss.hd, Ss.tl, b_l_ways, hlen, hrg2]
      rfl
    rw [hfor2]
    obtain ⟨J2, hJ2⟩ := shut (fun (z : Nat) (ρ : Env') (S' : List O) => ∃ (a5 a6 : Option D) (V : List Int), ρ = [some (mvD M.mv), some (.int (L : Nat)), some fd, some (.int (i : Nat)), some (.ref U.length), a5, a6] ∧ S' = U ++ [.lst (V.map D.int)] ∧ V.length = M.n ∧ ∀ f, sm M.n (fun t => V.getD t 0 * f t) = sm z (fun s => W.getD s 0 * stp M f s))
    have hloop := fr_N (gd := []) (b := fun ρ S => evSs tl.ct (callD tl.ct k) wsI none ρ S) (t := .nm 5) (fun i : Nat => D.int (i : Nat)) J2 (fun z _ => z + 1) (fun _ _ _ _ => trivial) (xs := List.range n) (z := 0) (ρ := [some (mvD M.mv), some (.int (L : Nat)), some fd, some (.int (i : Nat)), some (.ref U.length), a5, a6]) (S := U ++ [.lst ((List.replicate n (0 : Int)).map D.int)]) (by rw [hJ2]; exact ⟨_, _, _, rfl, rfl, by simp [hn], fun f => sm_zeros f⟩) (by
      intro us s vs hq ρ S3 hh3
      have hi2 := range_at hq
      rw [foldl_cnt, Nat.zero_add] at hh3 ⊢
      rw [← hi2.1] at hh3 ⊢
      rw [hJ2] at hh3
      obtain ⟨b5, b6, V, rfl, rfl, hVl, hV⟩ := hh3
      obtain ⟨V', x6', v1, v2, e1⟩ := ws_turn (k := k) h (show s < M.n by omega) (a1 := some (.int (L : Nat))) (a3 := some (.int (i : Nat))) (x6 := b6) (fd := fd) (U := U) (W := W) (V := V) hW.len hVl hIdx
      refine ⟨_, rfl, ?_⟩
      simp only [List.set_cons_succ, List.set_cons_zero]
      rw [e1]
      refine Nx.mk ?_
      rw [hJ2]
      exact ⟨_, _, V', rfl, rfl, v1, fun f => by rw [v2 f, hV f]; rfl⟩)
    obtain ⟨ρ2, S2, e2, hj2⟩ := hloop
    rw [foldl_cnt, Nat.zero_add, List.length_range, hJ2] at hj2
    obtain ⟨b5, b6, V, rfl, rfl, hVl, hV⟩ := hj2
    rw [e2, fb_nx]
    simp -dsimp [wsB, Ev.S.body, Ss.hd, Ss.tl, b_l_ways]
    refine Nx.mk ?_
    rw [hJ]
    refine ⟨_, _, _, _, _, Ls ++ [.lst (V.map D.int)], V, rfl, by rw [← hU, List.append_assoc], .inr ⟨Ls.length, by rw [← hU, List.length_append], by simp⟩, hVl, fun f => ?_⟩
    rw [hV f, hn, hW.dot (stp M f)]
    rfl
  · intro ρ2 S2 hh
    rw [foldl_cnt, Nat.zero_add, List.length_range, hJ] at hh
    obtain ⟨fd, a3, a4, a5, a6, Ls, W, rfl, rfl, hfd, hW⟩ := hh
    rw [hP]
    refine ⟨W, hW, ?_⟩
    simp -dsimp [Ss.tl, b_l_ways]
    rcases hfd with rfl | ⟨j, rfl, hj⟩
    · exact gcR_val (nr_cl _ (nrL_map fun _ => rfl))
    · exact gcR_at hj (nr_clL _ (nrL_map fun _ => rfl))
end LK78
end
section
set_option Elab.async false
set_option linter.all false
set_option maxRecDepth 100000
set_option maxHeartbeats 1000000
set_option autoImplicit false
namespace LK78
open PySem PySem.Spec PyProof.Rows L2 Ev
/-- 0 and s change their names -/
def sw (s i : Nat) : Nat := if i = s then 0 else if i = 0 then s else i
theorem sw_lt {n s i : Nat} (hs : s < n) (hi : i < n) : sw s i < n := by unfold sw; split <;> (try split) <;> omega
theorem sw_sw (s i : Nat) : sw s (sw s i) = i := by unfold sw; split <;> (try split) <;> (try split) <;> omega
theorem sw_inj {s i j : Nat} (h : sw s i = sw s j) : i = j := by rw [← sw_sw s i, h, sw_sw]
theorem sw_0 (s : Nat) : sw s 0 = s := by unfold sw; split <;> simp_all
def frmM (M : Mc) (s : Nat) : Mc := ⟨(List.range M.n).map fun i => (sw s (M.to (sw s i)).1, sw s (M.to (sw s i)).2), srtN (M.en.map (sw s))⟩
theorem frm_n (M : Mc) (s : Nat) : (frmM M s).n = M.n := by
  show ((List.range M.n).map _).length = _
  simp
theorem frm_to {M : Mc} {s i : Nat} (hi : i < M.n) : (frmM M s).to i = (sw s (M.to (sw s i)).1, sw s (M.to (sw s i)).2) := by
  rw [to_get (show i < (frmM M s).mv.length from by have := frm_n M s; show i < (frmM M s).n; omega)]
  simp [frmM]
theorem frm_en {M : Mc} {s i : Nat} : i ∈ (frmM M s).en ↔ sw s i ∈ M.en := by
  show i ∈ srtN (M.en.map (sw s)) ↔ _
  rw [srtN_mem, List.mem_map]
  constructor
  · rintro ⟨a, ha, rfl⟩; rwa [sw_sw]
  · exact fun h => ⟨_, h, sw_sw s i⟩
theorem frm_ok {M : Mc} (h : M.ok) {s : Nat} (hs : s < M.n) : (frmM M s).ok := by
  have hn := frm_n M s
  refine ⟨by rw [hn]; exact h.pos, by rw [hn]; exact h.le, fun p hp => ?_, fun e he => ?_, ?_⟩
  · rw [hn]
    obtain ⟨i, hi, rfl⟩ := List.mem_map.mp hp
    have hi := List.mem_range.mp hi
    have := to_lt h (sw_lt hs hi)
    exact ⟨sw_lt hs this.1, sw_lt hs this.2⟩
  · rw [hn]
    have := h.enlt _ (frm_en.mp he)
    rw [← sw_sw s e]
    exact sw_lt hs this
  · refine srtN_asc (List.pairwise_map.mpr (h.asc.imp fun {a b} hab he => ?_))
    have := sw_inj he
    omega
theorem frm_cnt {M : Mc} (h : M.ok) {s : Nat} (hs : s < M.n) : ∀ (L i : Nat), i < M.n → cnt (frmM M s) L i = cnt M L (sw s i)
  | 0, i, hi => by
    unfold cnt
    by_cases he : sw s i ∈ M.en
    · rw [if_pos he, if_pos (frm_en.mpr he)]
    · rw [if_neg he, if_neg fun z => he (frm_en.mp z)]
  | L + 1, i, hi => by
    have ht := to_lt h (sw_lt hs hi)
    show cnt (frmM M s) L _ + cnt (frmM M s) L _ = cnt M L _ + cnt M L _
    rw [frm_to hi, frm_cnt h hs L _ (sw_lt hs ht.1), frm_cnt h hs L _ (sw_lt hs ht.2), sw_sw, sw_sw]
def fmB : Ss := b_l_from
def fmI : Ss := fmB.tl.tl.tl.tl.hd.body
def nmL (n s : Nat) : List D := (List.range n).map fun i => D.int (sw s i : Nat)
theorem nm_set {n s : Nat} (hs : s < n) : (((List.range n).map fun i => D.int (i : Nat)).set 0 (.int (s : Nat))).set s (.int ((0 : Nat) : Int)) = nmL n s := by
  refine List.ext_getElem (by simp [nmL]) fun i h1 h2 => ?_
  simp [nmL] at h1 h2 ⊢
  rw [List.getElem_set, List.getElem_set]
  unfold sw
  by_cases h : s = i
  · subst h; simp
  · rw [if_neg h, if_neg (Ne.symm h)]
    by_cases h0 : 0 = i
    · subst h0; simp
    · rw [if_neg h0, if_neg (Ne.symm h0)]; simp
/-- _law_from -/
theorem e_from {k s : Nat} {M : Mc} (h : M.ok) (hs : s < M.n) (S : List O) : callD tl.ct (k + 4) F_l_from [mvD M.mv, tupI M.en, .int (s : Nat)] S = .ok (mcD (frmM M s)) S := by
  have hn1 := h.pos
  have hn8 := h.le
  have hen := h.enlen
  obtain ⟨n, hn⟩ : ∃ n, n = M.n := ⟨_, rfl⟩
  have hml : M.mv.length = n := hn.symm
  have hlen : ∀ S, lenD [mvD M.mv] S = .ok (.int (n : Nat)) S := fun S => by rw [len_mv, hml]
  have hlr : ∀ S, lrD 1 (.int 0) (.int (n : Nat)) S = .ok (.ref S.length) (S ++ [.lst ((List.range n).map fun i => D.int (i : Nat))]) := fun S => by
    have r1 : Ev.inR 0 := by decide
    have r2 : Ev.inR (n : Int) := by unfold Ev.inR; omega
    show (if Ev.inR 0 ∧ Ev.inR (n : Int) ∧ ((n : Int) - 0).toNat ≤ 16777216 then (if (1 : Nat) = 2 then R.ok (D.tup (rngL 0 ((n : Int) - 0).toNat)) S else mkL (1 == 1) (rngL 0 ((n : Int) - 0).toNat) S) else .bad) = _
    rw [if_pos ⟨r1, r2, by omega⟩, if_neg (by decide), rngL_map]
    simp [mkL]
  rw [run_l_from, show b_l_from = fmB from rfl, cut]
  obtain ⟨nm0, hnm0⟩ : ∃ nm0, nm0 = (List.range n).map fun i => D.int (i : Nat) := ⟨_, rfl⟩
  have hnl : nm0.length = n := by rw [hnm0]; simp
  have s1 := set_top (S := S) (ds := nm0) (w := .int (s : Nat)) (i := 0) (by omega)
  have s2 := set_top (S := S) (ds := nm0.set 0 (.int (s : Nat))) (w := .int ((0 : Nat) : Int)) (i := s) (by simp; omega)
  rw [hnm0, nm_set (by omega), ← hnm0] at s2
  simp only [Int.natCast_zero] at s1 s2
  rw [← hnm0] at hlr
  rw [show evS tl.ct (callD tl.ct (k + 3)) fmB.hd none [some (mvD M.mv), some (tupI M.en), some (.int (s : Nat)), none, none, none, none, none, none] S = .nx [some (mvD M.mv), some (tupI M.en), some (.int (s : Nat)), some (.ref S.length), none, none, none, none, none] (S ++ [.lst nm0]) by
    simp -dsimp [Ss.hd, fmB, b_l_from, hlen, hlr], fb_nx, cut,
    show evS tl.ct (callD tl.ct (k + 3)) fmB.tl.hd none [some (mvD M.mv), some (tupI M.en), some (.int (s : Nat)), some (.ref S.length), none, none, none, none, none] (S ++ [.lst nm0]) = .nx [some (mvD M.mv), some (tupI M.en), some (.int (s : Nat)), some (.ref S.length), none, none, none, none, none] (S ++ [.lst (nm0.set 0 (.int (s : Nat)))]) by
    simp -dsimp [Ss.hd, Ss.tl, fmB, b_l_from, s1], fb_nx, cut,
    show evS tl.ct (callD tl.ct (k + 3)) fmB.tl.tl.hd none [some (mvD M.mv), some (tupI M.en), some (.int (s : Nat)), some (.ref S.length), none, none, none, none, none] (S ++ [.lst (nm0.set 0 (.int (s : Nat)))]) = .nx [some (mvD M.mv), some (tupI M.en), some (.int (s : Nat)), some (.ref S.length), none, none, none, none, none] (S ++ [.lst (nmL n s)]) by
    simp -dsimp [Ss.hd, Ss.tl, fmB, b_l_from, s2], fb_nx, cut]
  obtain ⟨U, hU⟩ : ∃ U, U = S ++ [O.lst (nmL n s)] := ⟨_, rfl⟩
  obtain ⟨N, hN⟩ : ∃ N, N = S.length := ⟨_, rfl⟩
  rw [← hU, ← hN]
  rw [show evS tl.ct (callD tl.ct (k + 3)) fmB.tl.tl.tl.hd none [some (mvD M.mv), some (tupI M.en), some (.int (s : Nat)), some (.ref N), none, none, none, none, none] U = .nx [some (mvD M.mv), some (tupI M.en), some (.int (s : Nat)), some (.ref N), some (.ref U.length), none, none, none, none] (U ++ [.lst []]) by
    simp -dsimp [Ss.hd, Ss.tl, fmB, b_l_from, nat_sz], fb_nx, cut]
  have hnm : ∀ (T : List O) (i : Nat), i < n → idxD (.ref N) (.int (i : Nat)) (U ++ T) = .ok (.int (sw s i : Nat)) (U ++ T) := fun T i hi => by
    have := IdxL.ref (S := U) (n := N) (ds := nmL n s) (by rw [hU, hN]; simp) T i (by simp [nmL, hi])
    rw [this]
    simp [nmL]
  have hrg : ∀ S, rngS (.int 0) (.int (n : Nat)) S = .ok ⟨(List.range n).map fun i => D.int (i : Nat), []⟩ S := fun S => rng_0 (by omega)
  have hfor : ∀ S', evS tl.ct (callD tl.ct (k + 3)) fmB.tl.tl.tl.tl.hd none [some (mvD M.mv), some (tupI M.en), some (.int (s : Nat)), some (.ref N), some (.ref U.length), none, none, none, none] S' = frGo [] (.nm 5) (fun ρ S => evSs tl.ct (callD tl.ct (k + 3)) fmI none ρ S) ((List.range n).map fun i => D.int (i : Nat)) [some (mvD M.mv), some (tupI M.en), some (.int (s : Nat)), some (.ref N), some (.ref U.length), none, none, none, none] S' := fun S' => by
    conv => lhs; simp -dsimp [Ss.hd, Ss.tl, fmB, b_l_from, hlen, hrg]
    rfl
  rw [hfor]
  obtain ⟨J, hJ⟩ := shut (fun (z : Nat) (ρ : Env') (S' : List O) => ∃ a5 a6 a7, ρ = [some (mvD M.mv), some (tupI M.en), some (.int (s : Nat)), some (.ref N), some (.ref U.length), a5, a6, a7, none] ∧ S' = U ++ [.lst ((((List.range z).map fun i => (sw s (M.to (sw s i)).1, sw s (M.to (sw s i)).2))).map mvP)])
  refine fr_NK (P := fun g => gcR S (fin g) = R.ok (mcD (frmM M s)) S) (fun i : Nat => D.int (i : Nat)) J (fun z _ => z + 1) (z := 0) (by rw [hJ]; exact ⟨_, _, _, rfl, rfl⟩) ?_ ?_
  · intro ys i zs he ρ S1 hh
    have hi := range_at he
    rw [foldl_cnt, Nat.zero_add] at hh ⊢
    rw [← hi.1] at hh ⊢
    rw [hJ] at hh
    obtain ⟨a5, a6, a7, rfl, rfl⟩ := hh
    refine ⟨_, rfl, ?_⟩
    simp only [List.set_cons_succ, List.set_cons_zero]
    have hsi : sw s i < M.n := sw_lt hs (by omega)
    have ht := to_lt h hsi
    have e1 := fun T => hnm T i hi.2
    have e2 := fun T => idx_mv (S := T) hsi
    have e3 := fun T => hnm T (M.to (sw s i)).1 (by omega)
    have e4 := fun T => hnm T (M.to (sw s i)).2 (by omega)
    obtain ⟨acc, hacc⟩ : ∃ acc : List (Nat × Nat), acc = (List.range i).map fun i => (sw s (M.to (sw s i)).1, sw s (M.to (sw s i)).2) := ⟨_, rfl⟩
    have hal : acc.length = i := by rw [hacc]; simp
    rw [← hacc]
    generalize hp : M.to (sw s i) = p at e2 e3 e4
    generalize hj : sw s i = j at e1 e2
    simp -dsimp [fmI, Ev.S.body, Ss.hd, Ss.tl, fmB, b_l_from, e1, e2, e3, e4, nat_sz, app_top (S := U) (ds := acc.map mvP) (by simp; omega)]
    refine Nx.mk ?_
    rw [hJ]
    refine ⟨_, _, _, rfl, ?_⟩
    rw [List.range_succ, List.map_append, ← hacc, List.map_append]
    simp [hp, mvP]
  · intro ρ2 S2 hh
    rw [foldl_cnt, Nat.zero_add, List.length_range, hJ] at hh
    obtain ⟨a5, a6, a7, rfl, rfl⟩ := hh
    have hmv : ((List.range n).map fun i => (sw s (M.to (sw s i)).1, sw s (M.to (sw s i)).2)) = (frmM M s).mv := by rw [hn]; rfl
    rw [hmv]
    have htp : tupleD [.ref U.length] (U ++ [.lst ((frmM M s).mv.map mvP)]) = .ok (mvD (frmM M s).mv) (U ++ [.lst ((frmM M s).mv.map mvP)]) := by
      have : rdL (U ++ [O.lst ((frmM M s).mv.map mvP)]) (.ref U.length) = some ((frmM M s).mv.map mvP) := by simp [rdL, Ev.listOf]
      simp [tupleD, this, mvD, mvP]
    generalize hV : U ++ [O.lst ((frmM M s).mv.map mvP)] = V at htp
    have hVS : ∃ Ls, V = S ++ Ls := ⟨[O.lst (nmL n s), O.lst ((frmM M s).mv.map mvP)], by rw [← hV, hU]; simp⟩
    have hnmV : ∀ (T : List O) (i : Nat), i < n → idxD (.ref N) (.int (i : Nat)) (V ++ T) = .ok (.int (sw s i : Nat)) (V ++ T) := fun T i hi => by
      rw [← hV, List.append_assoc]
      exact hnm _ i hi
    simp -dsimp [Ss.tl, fmB, b_l_from, htp]
    generalize hr : gcR _ (lcE _ _ _ _) = r
    have hr := lc_resS hr (fun p : Nat => D.int (p : Nat)) (fun e => .int (sw s e : Nat)) rfl (fun e he acc => by
      have := h.enlt e he
      simp -dsimp [hnmV [.lst acc] e (by omega)]) (by omega) (fun _ _ => rfl)
    subst hr
    have hso : ∀ S, sortedD [.lst (M.en.map fun e => .int (sw s e : Nat))] S = .ok (.lst ((frmM M s).en.map fun p => D.int (p : Nat))) S := fun S => by
      have := sorted_nats (xs := M.en.map (sw s)) (S := S) (by simp; omega)
      rw [List.map_map] at this
      exact this
    have htn : ∀ S, tupleD [.lst ((frmM M s).en.map fun p => D.int (p : Nat))] S = .ok (tupI (frmM M s).en) S := fun S => rfl
    simp -dsimp [hso, htn, e_Machine (k := k) (frm_ok h hs)]
    obtain ⟨Ls, rfl⟩ := hVS
    exact gcR_val (nr_cl _ (nr_mc _))
end LK78
end
section
set_option Elab.async false
set_option linter.all false
set_option maxRecDepth 100000
set_option maxHeartbeats 1000000
set_option autoImplicit false
namespace LK78
open PySem PySem.Spec PyProof.Rows L2 Ev
/-- lots compared -/
theorem e_Lot_eq {k L L' : Nat} {rs qs : List (List Nat)} (h1 : ∀ r ∈ rs, asc r) (h2 : ∀ r ∈ qs, asc r) (S : List O) : callD tl.ct (k + 1) F_Lot___eq__ [lotD rs L, lotD qs L'] S = .ok (.bl (decide (rs = qs))) S := by
  have hisi : isiD tl.ct (lotD qs L') S [.own C_Lot] = .ok (.bl true) S := rfl
  have he : eqDS false (.tup (rs.map D.str)) (.tup (qs.map D.str)) S = .ok (.bl (decide (rs = qs))) S := by
    rw [eqS_tt (scl_strs h1) (scl_strs h2), eqL_strs]
    simp
  rw [run_Lot___eq__]
  simp -dsimp [-isiD, b_Lot___eq__, hisi, he]
theorem e_Lot_ne {k L : Nat} {rs : List (List Nat)} {d : D} (S : List O) (h : isiD tl.ct d S [.own C_Lot] = .ok (.bl false) S) : callD tl.ct (k + 1) F_Lot___eq__ [lotD rs L, d] S = .ok (.bl false) S := by
  rw [run_Lot___eq__]
  simp -dsimp [-isiD, b_Lot___eq__, h]
theorem oeq_lot {k L L' : Nat} {rs qs : List (List Nat)} (h1 : ∀ r ∈ rs, asc r) (h2 : ∀ r ∈ qs, asc r) (S : List O) : oeqD tl.ct (callD tl.ct (k + 1)) A___eq__ (lotD rs L) (lotD qs L') S = .ok (.bl (decide (rs = qs))) S := by
  have : oeqD tl.ct (callD tl.ct (k + 1)) A___eq__ (lotD rs L) (lotD qs L') S = (match callD tl.ct (k + 1) F_Lot___eq__ [lotD rs L, lotD qs L'] S with
        | .ok (.bl b) S' => .ok (.bl b) S'
        | _ => .bad) := rfl
  rw [this, e_Lot_eq h1 h2]
theorem oeq_lot_non {k L : Nat} {rs : List (List Nat)} (S : List O) : oeqD tl.ct (callD tl.ct (k + 1)) A___eq__ (lotD rs L) .non S = .ok (.bl false) S := by
  have : oeqD tl.ct (callD tl.ct (k + 1)) A___eq__ (lotD rs L) .non S = (match callD tl.ct (k + 1) F_Lot___eq__ [lotD rs L, .non] S with
        | .ok (.bl b) S' => .ok (.bl b) S'
        | _ => .bad) := rfl
  rw [this, e_Lot_ne S rfl]
end LK78
end
section
set_option Elab.async false
set_option linter.all false
set_option maxRecDepth 100000
set_option maxHeartbeats 1000000
set_option autoImplicit false
namespace LK78
open PySem PySem.Spec PyProof.Rows L2 Ev
def lawT : Ss := b_law.tl.tl.tl.hd.body
def lwP (xs : D) (M : Mc) (a3 a4 a5 a6 a7 a10 a11 a12 a13 : Option D) : Env' := [some xs, some (.ref 0), some (mcD M), a3, a4, a5, a6, a7, some (mvD M.mv), some (tupI M.en), a10, a11, a12, a13]
theorem isn_non {S : List O} : isD true .non .non S = .ok (.bl false) S := rfl
/-- a length's turn -/
theorem law_turn {k L : Nat} {M : Mc} (h : M.ok) (hL : L ≤ 8) {xs : D} {a4 a5 a6 a7 a10 a11 a12 a13 : Option D} (S : List O) : ∃ b10 b11 b12, evSs tl.ct (callD tl.ct (k + 5)) lawT none (lwP xs M (some (.int (L : Nat))) a4 a5 a6 a7 a10 a11 a12 a13) S = .nx (lwP xs M (some (.int (L : Nat))) a4 a5 a6 a7 b10 b11 b12 a13) S := by
  have hc := rows_cnt M L
  obtain ⟨rs, hrs⟩ : ∃ rs, rs = rowsP M L := ⟨_, rfl⟩
  have hlen : ∀ S, lenD [.lst (rs.map D.str)] S = .ok (.int (rs.length : Nat)) S := fun S => by
    show R.ok (D.int ((rs.map D.str).length : Nat)) S = _
    rw [List.length_map]
  have e1 := fun S => e_l_rows_of (k := k + 4) h (show L ≤ 10 by omega) S
  have e2 := fun S => e_many_of (k := k + 2) h (show L ≤ 200 by omega) S
  rw [← hc] at e2
  simp only [← hrs] at e1 e2
  have hasc : ∀ r ∈ rs, asc r := fun r hr => by rw [hrs] at hr; exact bits_asc (rows_bits h hr).1
  obtain ⟨n, hn⟩ : ∃ n, n = rs.length := ⟨_, rfl⟩
  rw [← hn] at hlen
  simp only [← hn] at e2
  have p1 : evSs tl.ct (callD tl.ct (k + 5)) lawT none (lwP xs M (some (.int (L : Nat))) a4 a5 a6 a7 a10 a11 a12 a13) S = evSs tl.ct (callD tl.ct (k + 5)) lawT.tl.tl.tl none (lwP xs M (some (.int (L : Nat))) a4 a5 a6 a7 (some (.lst (rs.map D.str))) (some (.int (n : Nat))) a12 a13) S := by
    unfold lwP
    simp -dsimp [lawT, Ev.S.body, Ss.hd, Ss.tl, b_law, e1, e2, hlen, eqS_i]
  rw [p1]
  by_cases h0 : L = 0
  · subst h0
    refine ⟨some (.lst (rs.map D.str)), some (.int (n : Nat)), a12, ?_⟩
    unfold lwP
    simp -dsimp [lawT, Ev.S.body, Ss.hd, Ss.tl, b_law]
  · have hL1 : 1 ≤ L := by omega
    have hLi : (0 : Int) < (L : Nat) := by omega
    have hLn : 0 < L := by omega
    by_cases n0 : n = 0
    · have e3 := e_told_none (k := k) h hL1 (show L ≤ 10 by omega) (by rw [← hrs]; omega) S
      refine ⟨some (.lst (rs.map D.str)), some (.int (n : Nat)), some .non, ?_⟩
      rw [n0] at hlen ⊢
      simp only [Int.natCast_zero] at hlen
      unfold lwP
      simp -dsimp [lawT, Ev.S.body, Ss.hd, Ss.tl, b_law, hLi, hLn, e3, hlen, eqS_i, isn_non]
    · have n1 : ¬ (n : Int) = 0 := by omega
      have n2 : (0 : Int) < (n : Nat) := by omega
      have n2' : 0 < n := by omega
      by_cases n64 : 64 < n
      · have e3 := e_told_many (k := k) h hL1 (show L ≤ 10 by omega) (by rw [← hrs]; omega) S
        have n3 : (64 : Int) < (n : Nat) := by omega
        have n4 : ¬ (n : Int) ≤ 64 := by omega
        have n4' : ¬ n ≤ 64 := by omega
        refine ⟨some (.lst (rs.map D.str)), some (.int (n : Nat)), some (.tup [.str [109, 97, 110, 121], .int 64]), ?_⟩
        have hne : ∀ S, eqDS true (.tup [.str [109, 97, 110, 121], .int 64]) (.tup [.str [109, 97, 110, 121], .int 64]) S = .ok (.bl false) S := fun S => by
          rw [eqS_tt (by decide) (by decide)]
          rfl
        unfold lwP
        simp -dsimp [lawT, Ev.S.body, Ss.hd, Ss.tl, b_law, nat_sz, hLi, hLn, e3, hlen, eqS_i, n0, n1, n2, n2', n3, n4, n4', n64, hne]
      · have hR := rows_Rows h hL1 (show L ≤ 10 by omega) (by rw [← hrs]; omega) (by rw [← hrs]; omega)
        have e3 := e_told_lot (k := k) h hL1 (show L ≤ 10 by omega) (by rw [← hrs]; omega) (by rw [← hrs]; omega) S
        have e4 := fun S => e_LotA (k := k + 3) hR (rows_asc h L) S
        rw [← hrs] at hR e3
        simp only [← hrs] at e4
        have n3 : ¬ (64 : Int) < (n : Nat) := by omega
        have n4 : (n : Int) ≤ 64 := by omega
        have n4' : n ≤ 64 := by omega
        have hne : ∀ S, eqDS true (.tup (rs.map D.str)) (.tup (rs.map D.str)) S = .ok (.bl false) S := fun S => by
          rw [eqS_tt (scl_strs hasc) (scl_strs hasc), eqL_strs]
          simp
        refine ⟨some (.lst (rs.map D.str)), some (.int (n : Nat)), some (lotD rs L), ?_⟩
        have o1 := fun S => oeq_lot (k := k + 4) (L := L) (L' := L) hasc hasc S
        have o2 := fun S => oeq_lot_non (k := k + 4) (L := L) (rs := rs) S
        unfold lwP
        simp -dsimp [lawT, Ev.S.body, Ss.hd, Ss.tl, b_law, nat_sz, hLi, hLn, e3, e4, hlen, eqS_i, n0, n1, n2, n2', n3, n4, n4', n64, hne, o1, o2]
theorem sum_ints {xs : List Int} {S : List O} : sumD [.lst (xs.map D.int)] S = .ok (.int xs.sum) S := by
  have : rdL S (.lst (xs.map D.int)) = some (xs.map D.int) := rfl
  simp [sumD, this, intsOf_map]
theorem itr_bd (M : Mc) : ∀ (z : Nat) (f : Nat → Int) (c : Int), (∀ s, 0 ≤ f s ∧ f s ≤ c) → ∀ s, 0 ≤ itr M z f s ∧ itr M z f s ≤ 2 ^ z * c
  | 0, f, c, h, s => by
    have := h s
    show 0 ≤ f s ∧ f s ≤ 2 ^ 0 * c
    rw [Int.pow_zero, Int.one_mul]
    exact this
  | z + 1, f, c, h, s => by
    have := itr_bd M z (stp M f) (c + c) (fun s => by
      have h1 := h (M.to s).1
      have h2 := h (M.to s).2
      unfold stp
      omega) s
    show 0 ≤ itr M z (stp M f) s ∧ itr M z (stp M f) s ≤ 2 ^ (z + 1) * c
    have e : (2 : Int) ^ (z + 1) * c = 2 ^ z * (c + c) := by
      rw [Int.pow_succ, Int.mul_assoc]
      congr 1
      omega
    rw [e]
    exact this
theorem ways_bd {M : Mc} {L : Nat} {W : List Int} (h : WaysL M L W) {t : Nat} (ht : t < M.n) : 0 ≤ W.getD t 0 ∧ W.getD t 0 ≤ 2 ^ L := by
  have e := h.dot fun s => if s = t then 1 else 0
  rw [sm_one (t := t) ht fun s _ hne => by
    show W.getD s 0 * (if s = t then 1 else 0) = 0
    rw [if_neg hne, Int.mul_zero]] at e
  rw [if_pos rfl, Int.mul_one] at e
  rw [e]
  have := itr_bd M L (fun s => if s = t then 1 else 0) 1 (fun s => by split <;> decide) 0
  rwa [Int.mul_one] at this
theorem pow_nat (n : Nat) : (2 : Int) ^ n = ((2 ^ n : Nat) : Int) := by
  induction n with
  | zero => rfl
  | succ n ih => rw [Int.pow_succ, ih, Nat.pow_succ]; omega
theorem mul_w {i j : Int} {a b : Nat} {S : List O} (h1 : 0 ≤ i) (h2 : i ≤ 2 ^ a) (h3 : 0 ≤ j) (h4 : j ≤ 2 ^ b) (ha : a ≤ 1000) (hb : b ≤ 1000) : mulD (.int i) (.int j) S = .ok (.int (i * j)) S := by
  rw [pow_nat] at h2 h4
  have k1 : i.natAbs < 2 ^ (a + 1) := by rw [Nat.pow_succ]; have := Nat.two_pow_pos a; omega
  have k2 : j.natAbs < 2 ^ (b + 1) := by rw [Nat.pow_succ]; have := Nat.two_pow_pos b; omega
  show (if CMul i j ∨ CMulW i j then R.ok (D.int (i * j)) S else .bad) = _
  rw [if_pos (.inr (wide_mul k1 k2 (by omega) (by omega) (by omega)))]
theorem sum_en {n : Nat} {g : Nat → Int} : ∀ {es : List Nat}, es.Pairwise (· < ·) → (∀ e ∈ es, e < n) → (es.map g).sum = sm n (fun s => g s * (if s ∈ es then 1 else 0))
  | [], _, _ => by
    rw [sm_zero fun s _ => by
      show g s * (if s ∈ ([] : List Nat) then 1 else 0) = 0
      simp]
    rfl
  | e :: es, h, hl => by
    obtain ⟨h1, h2⟩ := List.pairwise_cons.mp h
    have ih := sum_en (g := g) h2 fun x hx => hl x (List.mem_cons_of_mem _ hx)
    rw [List.map_cons, List.sum_cons, ih]
    have e1 : ∀ s, s < n → g s * (if s ∈ e :: es then (1 : Int) else 0) = (if s = e then g e else 0) + g s * (if s ∈ es then 1 else 0) := fun s _ => by
      by_cases hs : s = e
      · subst hs
        have : s ∉ es := fun hm => by have := h1 s hm; omega
        simp [this]
      · simp [hs]
    rw [sm_congr e1, sm_add (fun s => if s = e then g e else 0), sm_one (g := fun s => if s = e then g e else 0) (hl e List.mem_cons_self) fun s _ hne => if_neg hne, if_pos rfl]
theorem ways_sum {M : Mc} (h : M.ok) {L : Nat} {W : List Int} (hW : WaysL M L W) : (M.en.map fun e => W.getD e 0).sum = cnt M L 0 := by
  rw [sum_en (g := fun e => W.getD e 0) h.asc h.enlt]
  have := hW.dot (cnt M 0)
  rw [itr_cnt, Nat.add_zero] at this
  exact this
theorem ways_part {M : Mc} {L F : Nat} {W : List Int} (hW : WaysL M F W) (hF : F ≤ L) : sm M.n (fun s => W.getD s 0 * cnt M (L - F) s) = cnt M L 0 := by
  rw [hW.dot, itr_cnt]
  congr 1
  omega
def lawR : Ss := b_law.tl.tl.tl.tl
/-- behind the first loop -/
theorem law_rest {M : Mc} (h : M.ok) (g : Hd) {xs : D} {a3 a4 a5 a6 a7 a10 a11 a12 a13 : Option D} : ∃ g', evSs tl.ct (callD tl.ct 60) lawR none (lwP xs M a3 a4 a5 a6 a7 a10 a11 a12 a13) [hO g] = .rt (.bl true) [hO g'] := by
  have e1 := e_drawI (k := 59) g 201 (i := 201) rfl (T := []) (by decide) (by decide)
  have v1 := g.v_lt (m := 201) (by decide)
  obtain ⟨L, hL⟩ : ∃ L, L = g.v 201 := ⟨_, rfl⟩
  rw [← hL] at e1 v1
  obtain ⟨W, hW, e2⟩ := e_ways (k := 59) h (show L ≤ 1000 by omega) [hO (g.n 201)]
  have e3 := fun S => e_many_of (k := 57) h (show L ≤ 200 by omega) S
  have s1 : evS tl.ct (callD tl.ct 60) lawR.hd none (lwP xs M a3 a4 a5 a6 a7 a10 a11 a12 a13) [hO g] = .nx (lwP xs M (some (.int (L : Nat))) a4 a5 a6 a7 a10 a11 a12 a13) [hO (g.n 201)] := by
    unfold lwP
    simp -dsimp [lawR, Ss.hd, Ss.tl, b_law, e1]
  generalize g.n 201 = g2 at s1 e2
  have s2 : evS tl.ct (callD tl.ct 60) lawR.tl.hd none (lwP xs M (some (.int (L : Nat))) a4 a5 a6 a7 a10 a11 a12 a13) [hO g2] = .nx (lwP xs M (some (.int (L : Nat))) (some (.lst (W.map D.int))) a5 a6 a7 a10 a11 a12 a13) [hO g2] := by
    unfold lwP
    simp -dsimp [lawR, Ss.hd, Ss.tl, b_law, e2]
  have iW : ∀ {X : List Int} (_ : X.length = M.n) (t : Nat) S, t < M.n → idxD (.lst (X.map D.int)) (.int (t : Nat)) S = .ok (.int (X.getD t 0)) S := fun {X} hX t S ht => by
    rw [idx_nat (by rw [List.length_map]; omega), List.getElem_map, List.getD_eq_getElem?_getD, List.getElem?_eq_getElem (by omega)]; rfl
  have hen := h.enlen
  have s3 : evS tl.ct (callD tl.ct 60) lawR.tl.tl.hd none (lwP xs M (some (.int (L : Nat))) (some (.lst (W.map D.int))) a5 a6 a7 a10 a11 a12 a13) [hO g2] = .nx (lwP xs M (some (.int (L : Nat))) (some (.lst (W.map D.int))) a5 a6 a7 a10 a11 a12 a13) [hO g2] := by
    unfold lwP
    simp -dsimp [lawR, Ss.hd, Ss.tl, b_law, e3]
    generalize hr : gcR _ (lcE _ _ _ _) = r
    have hr := lc_resV hr (fun p : Nat => D.int (p : Nat)) (fun e => .int (W.getD e 0)) rfl (fun e he T => by
      simp -dsimp [-List.getD_eq_getElem?_getD, iW hW.len e T (h.enlt e he)]) (by omega) (fun _ _ => rfl)
    subst hr
    have hs : ∀ S, sumD [.lst (M.en.map fun e => D.int (W.getD e 0))] S = .ok (.int (cnt M L 0)) S := fun S => by
      have := sum_ints (xs := M.en.map fun e => W.getD e 0) (S := S)
      rw [List.map_map] at this
      rw [← ways_sum h hW]
      exact this
    simp -dsimp [-List.getD_eq_getElem?_getD, hs, eqS_i]
  have e4 := e_drawI (k := 59) g2 (L + 1) (i := (L : Int) + 1) (by simp) (T := []) (by omega) (by omega)
  have v4 := g2.v_lt (m := L + 1) (by omega)
  obtain ⟨F, hF⟩ : ∃ F, F = g2.v (L + 1) := ⟨_, rfl⟩
  rw [← hF] at e4 v4
  have s4 : evS tl.ct (callD tl.ct 60) lawR.tl.tl.tl.hd none (lwP xs M (some (.int (L : Nat))) (some (.lst (W.map D.int))) a5 a6 a7 a10 a11 a12 a13) [hO g2] = .nx (lwP xs M (some (.int (L : Nat))) (some (.lst (W.map D.int))) (some (.int (F : Nat))) a6 a7 a10 a11 a12 a13) [hO (g2.n (L + 1))] := by
    unfold lwP
    simp -dsimp [lawR, Ss.hd, Ss.tl, b_law, e4]
  generalize g2.n (L + 1) = g3 at s4
  obtain ⟨W2, hW2, e5⟩ := e_ways (k := 59) h (show F ≤ 1000 by omega) [hO g3]
  have s5 : evS tl.ct (callD tl.ct 60) lawR.tl.tl.tl.tl.hd none (lwP xs M (some (.int (L : Nat))) (some (.lst (W.map D.int))) (some (.int (F : Nat))) a6 a7 a10 a11 a12 a13) [hO g3] = .nx (lwP xs M (some (.int (L : Nat))) (some (.lst (W2.map D.int))) (some (.int (F : Nat))) a6 a7 a10 a11 a12 a13) [hO g3] := by
    unfold lwP
    simp -dsimp [lawR, Ss.hd, Ss.tl, b_law, e5]
  have s6 : evS tl.ct (callD tl.ct 60) lawR.tl.tl.tl.tl.tl.hd none (lwP xs M (some (.int (L : Nat))) (some (.lst (W2.map D.int))) (some (.int (F : Nat))) a6 a7 a10 a11 a12 a13) [hO g3] = .nx (lwP xs M (some (.int (L : Nat))) (some (.lst (W2.map D.int))) (some (.int (F : Nat))) (some (.int 0)) a7 a10 a11 a12 a13) [hO g3] := by
    unfold lwP
    simp -dsimp [lawR, Ss.hd, Ss.tl, b_law]
  refine ⟨g3, ?_⟩
  rw [cut, s1, fb_nx, cut, s2, fb_nx, cut, s3, fb_nx, cut, s4, fb_nx, cut, s5, fb_nx, cut, s6, fb_nx, cut]
  have hn8 := h.le
  have hrg : ∀ S, rngS (.int 0) (.int (M.n : Nat)) S = .ok ⟨(List.range M.n).map fun i => D.int (i : Nat), []⟩ S := fun S => rng_0 (by omega)
  have hlen : ∀ S, lenD [mvD M.mv] S = .ok (.int (M.n : Nat)) S := fun S => len_mv
  have hfor : ∀ ρ, ρ = lwP xs M (some (.int (L : Nat))) (some (.lst (W2.map D.int))) (some (.int (F : Nat))) (some (.int 0)) a7 a10 a11 a12 a13 → evS tl.ct (callD tl.ct 60) lawR.tl.tl.tl.tl.tl.tl.hd none ρ [hO g3] = frGo [] (.nm 7) (fun ρ S => evSs tl.ct (callD tl.ct 60) lawR.tl.tl.tl.tl.tl.tl.hd.body none ρ S) ((List.range M.n).map fun i => D.int (i : Nat)) ρ [hO g3] := fun ρ hρ => by
    rw [hρ]
    unfold lwP
    conv => lhs; simp -dsimp [lawR, Ss.hd, Ss.tl, b_law, hlen, hrg]
    rfl
  rw [hfor _ rfl]
  obtain ⟨J, hJ⟩ := shut (fun (z : Nat) (ρ : Env') (S' : List O) => ∃ a7, ρ = lwP xs M (some (.int (L : Nat))) (some (.lst (W2.map D.int))) (some (.int (F : Nat))) (some (.int (sm z fun s => W2.getD s 0 * cnt M (L - F) s))) a7 a10 a11 a12 a13 ∧ S' = [hO g3])
  refine fr_NK (P := fun f => f = .rt (.bl true) [hO g3]) (fun i : Nat => D.int (i : Nat)) J (fun z _ => z + 1) (z := 0) (by rw [hJ]; exact ⟨_, rfl, rfl⟩) ?_ ?_
  · intro ys s zs he ρ S1 hh
    have hi := range_at he
    rw [foldl_cnt, Nat.zero_add] at hh ⊢
    rw [← hi.1] at hh ⊢
    rw [hJ] at hh
    obtain ⟨a7, rfl, rfl⟩ := hh
    unfold lwP
    refine ⟨_, rfl, ?_⟩
    simp only [List.set_cons_succ, List.set_cons_zero]
    have e6 := fun S => e_from (k := 56) h hi.2 S
    have e7 := fun S => e_many_of (k := 57) (frm_ok h hi.2) (show L - F ≤ 200 by omega) S
    rw [frm_cnt h hi.2 (L - F) 0 h.pos, sw_0] at e7
    have hLF : (L : Int) - (F : Nat) = ((L - F : Nat) : Int) := by omega
    have hb := ways_bd hW2 hi.2
    have hm := fun S => mul_w (S := S) hb.1 hb.2 (cnt_nn M (L - F) s) (cnt_le M (L - F) s) (by omega) (by omega)
    have i1 := fun S => iW hW2.len s S hi.2
    obtain ⟨P, hP⟩ := shut (fun f : Fl => Nx (J (s + 1)) f)
    have hj : ∀ v : Int, v = sm (s + 1) (fun s => W2.getD s 0 * cnt M (L - F) s) → P (.nx (lwP xs M (some (.int (L : Nat))) (some (.lst (W2.map D.int))) (some (.int (F : Nat))) (some (.int v)) (some (.int (s : Nat))) a10 a11 a12 a13) [hO g3]) := fun v hv => by
      rw [hP]
      refine Nx.mk ?_
      rw [hJ]
      exact ⟨_, by rw [hv], rfl⟩
    have hj := hj _ rfl
    unfold lwP at hj
    suffices hh : P (evSs tl.ct (callD tl.ct 60) lawR.tl.tl.tl.tl.tl.tl.hd.body none [some xs, some (.ref 0), some (mcD M), some (.int (L : Nat)), some (.lst (W2.map D.int)), some (.int (F : Nat)), some (.int (sm s fun s => W2.getD s 0 * cnt M (L - F) s)), some (.int (s : Nat)), some (mvD M.mv), some (tupI M.en), a10, a11, a12, a13] [hO g3]) by
      rw [hP] at hh; exact hh
    generalize hy : W2.getD s 0 = y at hm i1
    generalize hx : cnt M (L - F) s = x at hm e7
    generalize hq : (sm s fun s => W2.getD s 0 * cnt M (L - F) s) = q
    have hj2 : sm (s + 1) (fun s => W2.getD s 0 * cnt M (L - F) s) = q + y * x := by
      rw [← hq, ← hy, ← hx]; rfl
    rw [hj2] at hj
    simp -dsimp [lawR, Ev.S.body, Ss.hd, Ss.tl, b_law, i1, e6, e7, hLF, hm]
    exact hj
  · intro ρ2 S2 hh
    rw [foldl_cnt, Nat.zero_add, List.length_range, hJ, ways_part hW2 (by omega)] at hh
    obtain ⟨a7, rfl, rfl⟩ := hh
    unfold lwP
    simp -dsimp [lawR, Ss.hd, Ss.tl, b_law, e3, eqS_i]
theorem law_true (ns : List Int) (hl : ns.length ≤ 63) (hb : ∀ z ∈ ns, Builtin.Int.intBits z ≤ 1048576) : ∃ S, callD tl.ct (60 + 1) F_law [.fl (ns.map D.int)] [] = .ok (.bl true) S := by
  refine ⟨[], ?_⟩
  rw [run_law]
  have e0 := e_hand (k := 59) hl
  obtain ⟨h0, hh0⟩ : ∃ h0 : Hd, h0 = ⟨ns.map fun i => if i < 0 then -i else i, 0, 0, 1 + (ns.length : Nat), 0⟩ := ⟨_, rfl⟩
  rw [← hh0] at e0
  obtain ⟨M, g, hM, e1⟩ := e_machine (k := 57) (most := 8) h0 [] (by decide) (by decide)
  have e2 := fun S => e_Machine (k := 57) hM S
  have s1 : evSs tl.ct (callD tl.ct 60) b_law none [some (.fl (ns.map D.int)), none, none, none, none, none, none, none, none, none, none, none, none, none] [] = evSs tl.ct (callD tl.ct 60) b_law.tl.tl.tl none (lwP (.fl (ns.map D.int)) M none none none none none none none none none) [hO g] := by
    unfold lwP
    simp only [show ((8 : Nat) : Int) = 8 from rfl] at e1
    simp -dsimp [Ss.tl, b_law, e0, e1, e2]
  rw [s1, cut]
  have hrg : ∀ S, rngS (.int 0) (.int 9) S = .ok ⟨(List.range 9).map fun i => D.int (i : Nat), []⟩ S := fun S => rng_0 (n := 9) (by decide)
  have hfor : ∀ ρ, evS tl.ct (callD tl.ct 60) b_law.tl.tl.tl.hd none ρ [hO g] = frGo [] (.nm 3) (fun ρ S => evSs tl.ct (callD tl.ct 60) lawT none ρ S) ((List.range 9).map fun i => D.int (i : Nat)) ρ [hO g] := fun ρ => by
    simp -dsimp only [Ss.hd, Ss.tl, b_law, v_fr, wi_rng, w_int, R.bind_ok, hid_ap, hrg, fl_ok]
    rfl
  rw [hfor]
  obtain ⟨J, hJ⟩ := shut (fun (z : Nat) (ρ : Env') (S' : List O) => ∃ a3 a4 a5 a6 a7 a10 a11 a12 a13, ρ = lwP (.fl (ns.map D.int)) M a3 a4 a5 a6 a7 a10 a11 a12 a13 ∧ S' = [hO g])
  refine fr_NK (P := fun f => gcR [] (fin f) = .ok (.bl true) []) (fun i : Nat => D.int (i : Nat)) J (fun z _ => z + 1) (z := 0) (by rw [hJ]; exact ⟨_, _, _, _, _, _, _, _, _, rfl, rfl⟩) ?_ ?_
  · intro ys i zs he ρ S1 hh
    have hi := range_at he
    rw [foldl_cnt, Nat.zero_add] at hh ⊢
    rw [hJ] at hh
    obtain ⟨a3, a4, a5, a6, a7, a10, a11, a12, a13, rfl, rfl⟩ := hh
    obtain ⟨b10, b11, b12, e3⟩ := law_turn (k := 55) hM (show i ≤ 8 by omega) (xs := .fl (ns.map D.int)) (a4 := a4) (a5 := a5) (a6 := a6) (a7 := a7) (a10 := a10) (a11 := a11) (a12 := a12) (a13 := a13) [hO g]
    unfold lwP at e3 ⊢
    refine ⟨_, rfl, ?_⟩
    simp only [List.set_cons_succ, List.set_cons_zero]
    rw [e3]
    refine Nx.mk ?_
    rw [hJ]
    exact ⟨_, _, _, _, _, _, _, _, _, rfl, rfl⟩
  · intro ρ2 S2 hh
    rw [hJ] at hh
    obtain ⟨a3, a4, a5, a6, a7, a10, a11, a12, a13, rfl, rfl⟩ := hh
    obtain ⟨g', e4⟩ := law_rest hM g (xs := .fl (ns.map D.int)) (a3 := a3) (a4 := a4) (a5 := a5) (a6 := a6) (a7 := a7) (a10 := a10) (a11 := a11) (a12 := a12) (a13 := a13)
    show gcR [] (fin (evSs tl.ct (callD tl.ct 60) lawR none _ _)) = _
    rw [e4]
    exact gcR_val (S := []) (T := [hO g']) rfl
end LK78
end
section
set_option Elab.async false
set_option linter.all false
set_option maxRecDepth 100000
set_option maxHeartbeats 0
set_option autoImplicit false
open PySem PySem.W PySem.Calls PyProof.Rows
theorem PySem.Challenge.cw_likeslips_k78_whole_rows_of_machines_holds : PySem.Challenge.rw_likeslips_k78_whole_rows_of_machines.Holds := by
  w_on; o_law
  refine HandSHeadRun.head_any (r := OpenLaw.row PySem.Challenge.rw_likeslips_k78_whole_rows_of_machines) (q := view (OpenLaw.row PySem.Challenge.rw_likeslips_k78_whole_rows_of_machines).prog [38]) (H := LK78.hk) (ob := LK78.ob) (M := 6000) (loose := LK78.names) (d := HandSHeadRun.topDef (OpenLaw.row PySem.Challenge.rw_likeslips_k78_whole_rows_of_machines).prog 38) (kwd := []) LK78.ob_eq
    (by kernel_rfl) (fun s => by kernel_rfl) LK78.run (by kernel_rfl) (by kernel_rfl) (by kernel_rfl) (by rfl) (by first | assumption | decide +kernel) (by decide +kernel) ⟨rfl, rfl, rfl, rfl, rfl, by decide +kernel⟩ ?hw ?hc
  case hw => w_witness2
  case hc =>
    refine LamX.walk_ofTsE (l := PySem.Challenge.rw_likeslips_k78_whole_rows_of_machines) (n := 63) (k := 2 * 60 + 4 + 1) (x := "_law_script") (CX := fun w => L2.CX (PySem.Challenge.rw_likeslips_k78_whole_rows_of_machines).prog w) rfl (by decide) (by kernel_rfl) ⟨rfl, by decide, by decide⟩ ?F (fun w H s e s2 z => by obtain ⟨_, _, _, _, _, _, _, _, _, _, _, _, q⟩ := z; exact q)
    intro w mg fa h Y G hmg0
    obtain ⟨K, KX, c⟩ := Y
    have hmg : mg ("law" : PySem.Str) = some (.ref fa) := by
      have e : (HandSHeadRun.topDef (OpenLaw.row PySem.Challenge.rw_likeslips_k78_whole_rows_of_machines).prog 38).name = ("law" : PySem.Str) := by kernel_rfl
      rw [← e]
      exact hmg0
    obtain ⟨fd, hb, hF⟩ := LK78.facts (P := (PySem.Challenge.rw_likeslips_k78_whole_rows_of_machines).prog) (w := w) KX G c hmg
    exact ⟨K, KX, fd, [], _, fun p hp => absurd hp (by simp), fun p hp => absurd hp (by simp), fun p hp => absurd hp (by simp), hb, fun H a ns hl hbits _ hS => Ev.law_sp (F := Ev.fxOf LK78.tl K LK78.an_nd) hS (LK78.law_true ns hl hbits), fun base _ _ _ => hF base⟩
end
