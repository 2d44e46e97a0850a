import PyProof.Rows.All
import Wide.All
import OpenK.AllK
import Wide.FinOn
import HandS.ForMost
import KE.KeyNested
import HandS.TupAny
import HandS.IsInst
import HandS.Deep
import HandS.TupLe
import KE.KDictWalk
import HandS.Conv
import HandS.Star
import HandS.SortOrd
import HandS.SortKw
import KE.SortKeyHeap
import PySem.Challenge.RW_everydepth_k28_order_of_things
set_option Elab.async false
set_option linter.all false
set_option maxRecDepth 100000
set_option maxHeartbeats 4000000
/-! The data layer, part a: Python values as data (Dt), mutable cells (Mem), what a state says of the abstract heap (Ws), and how data is kept. -/
namespace DL
open PySem L2

/-- a value as data: a tuple or a list that nobody changes is its items (lsk: one that is locked or the module's); 'ref i' is the i-th mutable cell -/
inductive Dt where
  | non | bl (b : Bool) | int (i : Int) | str (x : Str) | adr (a : Addr) | ty (n : String) | ref (i : Nat)
  | tup (ds : List Dt) | lst (ds : List Dt) | lsk (ds : List Dt)
  | dic (ks vs : List Dt) | obj (C : Addr) (ns : List Str) (vs : List Dt) | sett (ds : List Dt)

/-- what stands in the cells; none: given up -/
abbrev Mem := List (Option Dt)

structure Ws where
  ρ : List Addr
  M : Mem
  H : Hp
  ex : List Addr

def Live (w : Ws) (a : Addr) : Prop := ∃ (i : Nat) (c : Dt), w.ρ[i]? = some a ∧ w.M[i]? = some (some c)

/-- nobody changes what stands at a: no live cell, and no list that a comprehension is making -/
structure Fz (w : Ws) (a : Addr) : Prop where
  nl : ¬ Live w a
  nx : a ∉ w.ex

/-- a list that nobody can change: locked, or the module's -/
def ImL (K : PySem.W.Frag) (H : Hp) (a : Addr) (xs : List V) : Prop :=
  (∃ o, H a = some (.frz o (.lst xs))) ∨
    ∃ (o : Obj) (its : Array Value) (n : Nat), K.lookup a = some o ∧ o.cls = .type "list" ∧ o.dict = none ∧ o.data = .seq its n ∧ its.size ≤ sizeLine ∧ Vals xs its.toList
theorem ImL.sq {K : PySem.W.Frag} {H : Hp} {a : Addr} {xs : List V} (h : ImL K H a xs) : SqL K H a xs := by
  rcases h with h | h
  · exact .inl (.inr h)
  · exact .inr h

/-- the object at a is o, as it is -/
def RawIs (a : Addr) (o : Obj) : HO := .ext fun h => h.get? a = some o
/-- the dict at a: its raw object; kx, vx: the values of keys and of values -/
structure RawD (a : Addr) (o : Obj) (es : Array DictEntry) (ep : Nat) (kx vx : List V) : Prop where
  ex : o.ExactDict
  dt : o.data = .dict es ep
  ky : Vals kx (es.toList.map (·.key))
  vl : Vals vx (es.toList.map (·.val))
  sz : es.size ≤ sizeLine
  sm : (a == sysModules) = false

mutual
/-- a key of a dict or a set -/
def toKey : Dt → Option NestedKey
  | .non => some .none
  | .bl b => some (.num (if b = true then 1 else 0))
  | .int i => some (.num i)
  | .str x => some (.text x)
  | .tup ds => (toKeys ds).map .tup
  | .adr _ => none
  | .ty _ => none
  | .ref _ => none
  | .lst _ => none
  | .lsk _ => none
  | .dic _ _ => none
  | .obj _ _ _ => none
  | .sett _ => none
def toKeys : List Dt → Option (List NestedKey)
  | [] => some []
  | d :: ds => match toKey d, toKeys ds with
    | some k, some ks => some (k :: ks)
    | _, _ => none
end
/-- the keys are keys, at most eight deep, no two the same; their hashes -/
def KeysAre (W : World) (ks : List Dt) (es : Array DictEntry) : Prop :=
  ∃ ns : List NestedKey, toKeys ks = some ns ∧ ns.Nodup ∧ (∀ n ∈ ns, n.depth ≤ 8) ∧ es.toList.map (·.hash) = ns.map (·.hash W)

mutual
inductive Dv (K : PySem.W.Frag) (W : World) (w : Ws) : V → Dt → Prop
  | non : Dv K W w .non .non
  | bl (b) : Dv K W w (.bl b) (.bl b)
  | int (i) : Dv K W w (.int i) (.int i)
  | str (x) : Dv K W w (.str x) (.str x)
  | adr (a) : Dv K W w (.ref a) (.adr a)
  | ty (n) : Dv K W w (.ty n) (.ty n)
  | ref {i a} : w.ρ[i]? = some a → Dv K W w (.ref a) (.ref i)
  | tup {a xs ds} : SqT K w.H a xs → Dvs K W w xs ds → Dv K W w (.ref a) (.tup ds)
  | lst {a xs ds} : w.H a = some (.lst xs) → Fz w a → Dvs K W w xs ds → Dv K W w (.ref a) (.lst ds)
  | lstK {a xs ds} : ImL K w.H a xs → Dvs K W w xs ds → Dv K W w (.ref a) (.lsk ds)
  | dic {a o es ep kx vx ks vs} : w.H a = some (RawIs a o) → Fz w a → RawD a o es ep kx vx → KeysAre W ks es → Dvs K W w kx ks → Dvs K W w vx vs → Dv K W w (.ref a) (.dic ks vs)
  | dicK {a o es ep kx vx ks vs} : K.lookup a = some o → RawD a o es ep kx vx → KeysAre W ks es → Dvs K W w kx ks → Dvs K W w vx vs → Dv K W w (.ref a) (.dic ks vs)
  | obj {a C dx xs ns vs} : w.H a = some (.ins C dx (ns.zip xs)) → ns.length = xs.length → Fz w a → Dvs K W w xs vs → Dv K W w (.ref a) (.obj C ns vs)
inductive Dvs (K : PySem.W.Frag) (W : World) (w : Ws) : List V → List Dt → Prop
  | nil : Dvs K W w [] []
  | cons {x xs d ds} : Dv K W w x d → Dvs K W w xs ds → Dvs K W w (x :: xs) (d :: ds)
end

/-- a live cell's content at its address -/
def CellAt (K : PySem.W.Frag) (W : World) (w : Ws) (a : Addr) : Dt → Prop
  | .lst ds => ∃ xs, w.H a = some (.lst xs) ∧ Dvs K W w xs ds
  | .dic ks vs => ∃ o es ep kx vx, w.H a = some (RawIs a o) ∧ RawD a o es ep kx vx ∧ KeysAre W ks es ∧ Dvs K W w kx ks ∧ Dvs K W w vx vs
  | .obj C ns vs => ∃ dx xs, w.H a = some (.ins C dx (ns.zip xs)) ∧ ns.length = xs.length ∧ Dvs K W w xs vs
  | _ => False

structure Ok (K : PySem.W.Frag) (W : World) (w : Ws) : Prop where
  len : w.ρ.length = w.M.length
  nd : w.ρ.Nodup
  has : ∀ a ∈ w.ρ, ∃ o, w.H a = some o
  exl : ∀ a ∈ w.ex, a ∉ w.ρ ∧ ∃ o, w.H a = some o
  cells : ∀ (i : Nat) (a : Addr) (c : Dt), w.ρ[i]? = some a → w.M[i]? = some (some c) → CellAt K W w a c

/-- what is kept from w to w': what data leans on -/
structure Ext0 (w w' : Ws) : Prop where
  pre : ∃ t, w'.ρ = w.ρ ++ t
  imm : ∀ a o, w.H a = some o → ¬ Mut (some o) → w'.H a = some o
  frz : ∀ a o, w.H a = some o → Fz w a → w'.H a = some o ∧ Fz w' a
/-- .. and the lists that are being made -/
structure Ext (w w' : Ws) : Prop extends Ext0 w w' where
  hid : ∀ a ∈ w.ex, w'.H a = w.H a
  exm : ∀ a ∈ w.ex, a ∈ w'.ex

theorem Ext.refl (w : Ws) : Ext w w := ⟨⟨⟨[], by simp⟩, fun _ _ h _ => h, fun _ _ h n => ⟨h, n⟩⟩, fun _ _ => rfl, fun _ h => h⟩
theorem Ext.trans {w w1 w2 : Ws} (a : Ext w w1) (b : Ext w1 w2) : Ext w w2 := by
  refine ⟨⟨?_, fun x o h n => b.imm x o (a.imm x o h n) n, fun x o h n => ?_⟩, fun x h => (b.hid x (a.exm x h)).trans (a.hid x h), fun x h => b.exm x (a.exm x h)⟩
  · obtain ⟨t, e⟩ := a.pre
    obtain ⟨t', e'⟩ := b.pre
    exact ⟨t ++ t', by rw [e', e, List.append_assoc]⟩
  · obtain ⟨h1, n1⟩ := a.frz x o h n
    exact b.frz x o h1 n1
theorem Ext0.get {w w' : Ws} (e : Ext0 w w') {i : Nat} {a : Addr} (h : w.ρ[i]? = some a) : w'.ρ[i]? = some a := by
  obtain ⟨t, q⟩ := e.pre
  rw [q, List.getElem?_append_left (List.getElem?_eq_some_iff.mp h).1]
  exact h
theorem Ext0.sqT {K : PySem.W.Frag} {w w' : Ws} (e : Ext0 w w') {a : Addr} {xs : List V} (h : SqT K w.H a xs) : SqT K w'.H a xs := by
  rcases h with (h | ⟨o, h⟩) | h
  · exact .inl (.inl (e.imm _ _ h (fun z => z)))
  · exact .inl (.inr ⟨o, e.imm _ _ h (fun z => z)⟩)
  · exact .inr h
theorem Ext0.imL {K : PySem.W.Frag} {w w' : Ws} (e : Ext0 w w') {a : Addr} {xs : List V} (h : ImL K w.H a xs) : ImL K w'.H a xs := by
  rcases h with ⟨o, h⟩ | h
  · exact .inl ⟨o, e.imm _ _ h (fun z => z)⟩
  · exact .inr h

section
variable {K : PySem.W.Frag} {W : World}
mutual
theorem Dv.mono0 {w w' : Ws} (e : Ext0 w w') : ∀ (d : Dt) (v : V), Dv K W w v d → Dv K W w' v d
  | .non, _, h => by cases h; exact .non
  | .bl b, _, h => by cases h; exact .bl b
  | .int i, _, h => by cases h; exact .int i
  | .str x, _, h => by cases h; exact .str x
  | .adr a, _, h => by cases h; exact .adr a
  | .ty n, _, h => by cases h; exact .ty n
  | .ref i, _, h => by cases h with | ref h => exact .ref (e.get h)
  | .tup ds, _, h => by cases h with | tup h1 h2 => exact .tup (e.sqT h1) (Dvs.mono0 e ds _ h2)
  | .lst ds, _, h => by
    cases h with
    | lst h1 n h2 =>
      obtain ⟨h1', n'⟩ := e.frz _ _ h1 n
      exact .lst h1' n' (Dvs.mono0 e ds _ h2)
  | .lsk ds, _, h => by cases h with | lstK h1 h2 => exact .lstK (e.imL h1) (Dvs.mono0 e ds _ h2)
  | .dic ks vs, _, h => by
    cases h with
    | dic h1 n r k h2 h3 =>
      obtain ⟨h1', n'⟩ := e.frz _ _ h1 n
      exact .dic h1' n' r k (Dvs.mono0 e ks _ h2) (Dvs.mono0 e vs _ h3)
    | dicK h1 r k h2 h3 => exact .dicK h1 r k (Dvs.mono0 e ks _ h2) (Dvs.mono0 e vs _ h3)
  | .obj C ns vs, _, h => by
    cases h with
    | obj h1 l n h2 =>
      obtain ⟨h1', n'⟩ := e.frz _ _ h1 n
      exact .obj h1' l n' (Dvs.mono0 e vs _ h2)
  | .sett _, _, h => by cases h
theorem Dvs.mono0 {w w' : Ws} (e : Ext0 w w') : ∀ (ds : List Dt) (vs : List V), Dvs K W w vs ds → Dvs K W w' vs ds
  | [], _, h => by cases h; exact .nil
  | d :: ds, _, h => by
    cases h with
    | cons h1 h2 => exact .cons (Dv.mono0 e d _ h1) (Dvs.mono0 e ds _ h2)
end
theorem Dv.mono {w w' : Ws} (e : Ext w w') {d : Dt} {v : V} (h : Dv K W w v d) : Dv K W w' v d := Dv.mono0 e.toExt0 d v h
theorem Dvs.mono {w w' : Ws} (e : Ext w w') {ds : List Dt} {vs : List V} (h : Dvs K W w vs ds) : Dvs K W w' vs ds := Dvs.mono0 e.toExt0 ds vs h
theorem Dvs.length {w : Ws} : ∀ {ds : List Dt} {vs : List V}, Dvs K W w vs ds → vs.length = ds.length
  | _, _, .nil => rfl
  | _, _, .cons _ t => congrArg (· + 1) t.length
theorem Dvs.get {w : Ws} : ∀ {ds : List Dt} {vs : List V} {i : Nat} {d : Dt}, Dvs K W w vs ds → ds[i]? = some d → ∃ v, vs[i]? = some v ∧ Dv K W w v d
  | _, _, _, _, .nil, e => by simp at e
  | _, _, 0, _, .cons h _, e => by simp at e; subst e; exact ⟨_, rfl, h⟩
  | _, _, i + 1, _, .cons _ t, e => by
    obtain ⟨v, h1, h2⟩ := Dvs.get (i := i) t (by simpa using e)
    exact ⟨v, by simpa using h1, h2⟩
theorem Dvs.getV {w : Ws} {ds : List Dt} {vs : List V} {i : Nat} {v : V} (h : Dvs K W w vs ds) (e : vs[i]? = some v) : ∃ d, ds[i]? = some d ∧ Dv K W w v d := by
  have hl : i < ds.length := by rw [← h.length]; exact (List.getElem?_eq_some_iff.mp e).1
  obtain ⟨v', e', r⟩ := h.get (List.getElem?_eq_getElem hl)
  rw [e] at e'; cases e'
  exact ⟨_, List.getElem?_eq_getElem hl, r⟩
theorem Dvs.append {w : Ws} : ∀ {ds es : List Dt} {vs us : List V}, Dvs K W w vs ds → Dvs K W w us es → Dvs K W w (vs ++ us) (ds ++ es)
  | _, _, _, _, .nil, s => s
  | _, _, _, _, .cons h t, s => .cons h (Dvs.append t s)
theorem Dvs.take {w : Ws} : ∀ {ds : List Dt} {vs : List V} (n : Nat), Dvs K W w vs ds → Dvs K W w (vs.take n) (ds.take n)
  | _, _, 0, _ => .nil
  | _, _, _ + 1, .nil => .nil
  | _, _, n + 1, .cons h t => .cons h (Dvs.take n t)
theorem Dvs.drop {w : Ws} : ∀ {ds : List Dt} {vs : List V} (n : Nat), Dvs K W w vs ds → Dvs K W w (vs.drop n) (ds.drop n)
  | _, _, 0, h => h
  | _, _, _ + 1, .nil => .nil
  | _, _, n + 1, .cons _ t => Dvs.drop n t
theorem Dvs.set {w : Ws} {v : V} {d : Dt} (r : Dv K W w v d) : ∀ {ds : List Dt} {vs : List V} (i : Nat), Dvs K W w vs ds → Dvs K W w (vs.set i v) (ds.set i d)
  | _, _, _, .nil => .nil
  | _, _, 0, .cons _ t => .cons r t
  | _, _, i + 1, .cons h t => .cons h (Dvs.set r i t)
theorem Dvs.one {w : Ws} {v : V} {d : Dt} (r : Dv K W w v d) : Dvs K W w [v] [d] := .cons r .nil
theorem CellAt.mono0 {w w' : Ws} (e : Ext0 w w') {a : Addr} (k : w'.H a = w.H a) : ∀ {c : Dt}, CellAt K W w a c → CellAt K W w' a c
  | .lst ds, ⟨xs, h, r⟩ => ⟨xs, k.trans h, Dvs.mono0 e _ _ r⟩
  | .dic ks vs, ⟨o, es, ep, kx, vx, h, r, q, r1, r2⟩ => ⟨o, es, ep, kx, vx, k.trans h, r, q, Dvs.mono0 e _ _ r1, Dvs.mono0 e _ _ r2⟩
  | .obj C ns vs, ⟨dx, xs, h, l, r⟩ => ⟨dx, xs, k.trans h, l, Dvs.mono0 e _ _ r⟩
theorem CellAt.mono {w w' : Ws} (e : Ext w w') {a : Addr} (k : w'.H a = w.H a) {c : Dt} (h : CellAt K W w a c) : CellAt K W w' a c := CellAt.mono0 e.toExt0 k h
/-- what stands in a live cell can be changed -/
theorem CellAt.mut {w : Ws} {a : Addr} : ∀ {c : Dt}, CellAt K W w a c → ∃ o, w.H a = some o ∧ Mut (some o)
  | .lst ds, ⟨xs, h, r⟩ => ⟨_, h, trivial⟩
  | .dic ks vs, ⟨o, es, ep, kx, vx, h, r, q, r1, r2⟩ => ⟨_, h, trivial⟩
  | .obj C ns vs, ⟨dx, xs, h, l, r⟩ => ⟨_, h, trivial⟩
/-- an object that can't be changed is no live cell -/
theorem Ok.notLive {w : Ws} (ok : Ok K W w) {a : Addr} {o : HO} (h : w.H a = some o) (n : ¬ Mut (some o)) : ¬ Live w a := by
  rintro ⟨i, c, h1, h2⟩
  obtain ⟨o', e, m⟩ := (ok.cells i a c h1 h2).mut
  rw [h] at e; cases e
  exact n m
theorem Ok.inj {w : Ws} (ok : Ok K W w) {i j : Nat} {a : Addr} (h : w.ρ[i]? = some a) (h' : w.ρ[j]? = some a) : i = j :=
  (List.getElem?_inj (List.getElem?_eq_some_iff.mp h).1 ok.nd).mp (h.trans h'.symm)

/-- a new object that is data: nothing else changes -/
def Ws.put (w : Ws) (p : Addr) (o : HO) : Ws := { w with H := upd w.H p o }
theorem Ok.fresh {w : Ws} (ok : Ok K W w) {p : Addr} (hp : w.H p = none) : p ∉ w.ρ := fun h => by
  obtain ⟨o, e⟩ := ok.has p h
  rw [hp] at e; cases e
theorem live_put {w : Ws} {p a : Addr} {o : HO} : Live (w.put p o) a ↔ Live w a := Iff.rfl
theorem Ok.exf {w : Ws} (ok : Ok K W w) {p : Addr} (hp : w.H p = none) : p ∉ w.ex := fun h => by
  obtain ⟨_, o, e⟩ := ok.exl p h
  rw [hp] at e; cases e
theorem Ok.exn {w : Ws} (ok : Ok K W w) {p a : Addr} (hp : w.H p = none) (h : a ∈ w.ex) : a ≠ p := fun e => ok.exf hp (e ▸ h)
theorem Ext.put {w : Ws} (ok : Ok K W w) {p : Addr} {o : HO} (hp : w.H p = none) : Ext w (w.put p o) := by
  refine ⟨⟨⟨[], by simp [Ws.put]⟩, fun a u h _ => ?_, fun a u h n => ⟨?_, n.nl, n.nx⟩⟩, fun a h => ?_, fun _ h => h⟩
  · show upd w.H p o a = some u
    rw [upd_ne (ne_of_none h hp)]
    exact h
  · show upd w.H p o a = some u
    rw [upd_ne (ne_of_none h hp)]
    exact h
  · show upd w.H p o a = w.H a
    rw [upd_ne (ok.exn hp h)]
theorem Ok.put {w : Ws} (ok : Ok K W w) {p : Addr} {o : HO} (hp : w.H p = none) : Ok K W (w.put p o) := by
  refine ⟨ok.len, ok.nd, fun a h => ?_, fun a h => ⟨(ok.exl a h).1, ?_⟩, fun i a c h1 h2 => ?_⟩
  · obtain ⟨u, e⟩ := ok.has a h
    exact ⟨u, by show upd w.H p o a = _; rw [upd_ne (ne_of_none e hp)]; exact e⟩
  · obtain ⟨u, e⟩ := (ok.exl a h).2
    exact ⟨u, by show upd w.H p o a = _; rw [upd_ne (ne_of_none e hp)]; exact e⟩
  · have q := ok.cells i a c h1 h2
    obtain ⟨u, e, _⟩ := q.mut
    refine q.mono (Ext.put ok hp) ?_
    show upd w.H p o a = w.H a
    rw [upd_ne (ne_of_none e hp)]
theorem Ok.fz_new {w : Ws} (ok : Ok K W w) {p : Addr} {o : HO} (hp : w.H p = none) : Fz (w.put p o) p := by
  refine ⟨?_, ok.exf hp⟩
  rintro ⟨i, c, h1, _⟩
  exact ok.fresh hp (List.mem_of_getElem? h1)

/-- a new cell -/
def Ws.cell (w : Ws) (p : Addr) (o : HO) (c : Dt) : Ws := { ρ := w.ρ ++ [p], M := w.M ++ [some c], H := upd w.H p o, ex := w.ex }
theorem Ext.cell {w : Ws} (ok : Ok K W w) {p : Addr} {o : HO} {c : Dt} (hp : w.H p = none) : Ext w (w.cell p o c) := by
  refine ⟨⟨⟨[p], rfl⟩, fun a u h _ => ?_, fun a u h n => ⟨?_, ?_, n.nx⟩⟩, fun a h => ?_, fun _ h => h⟩
  · show upd w.H p o a = some u
    rw [upd_ne (ne_of_none h hp)]; exact h
  · show upd w.H p o a = some u
    rw [upd_ne (ne_of_none h hp)]; exact h
  · rintro ⟨i, c', h1, h2⟩
    have h1 : (w.ρ ++ [p])[i]? = some a := h1
    have h2 : (w.M ++ [some c])[i]? = some (some c') := h2
    by_cases hi : i < w.ρ.length
    · rw [List.getElem?_append_left hi] at h1
      rw [List.getElem?_append_left (by rw [← ok.len]; exact hi)] at h2
      exact n.nl ⟨i, c', h1, h2⟩
    · rw [List.getElem?_append_right (by omega)] at h1
      have : a = p := by
        have := List.mem_of_getElem? h1
        simpa using this
      subst this
      rw [hp] at h; cases h
  · show upd w.H p o a = w.H a
    rw [upd_ne (ok.exn hp h)]
theorem Ok.cell {w : Ws} (ok : Ok K W w) {p : Addr} {o : HO} {c : Dt} (hp : w.H p = none) (hc : CellAt K W (w.cell p o c) p c) : Ok K W (w.cell p o c) := by
  refine ⟨?_, ?_, fun a h => ?_, fun a h => ⟨?_, ?_⟩, fun i a c' h1 h2 => ?_⟩
  · show (w.ρ ++ [p]).length = (w.M ++ [some c]).length
    rw [List.length_append, List.length_append, ok.len]; rfl
  · show (w.ρ ++ [p]).Nodup
    rw [List.nodup_append]
    refine ⟨ok.nd, by simp, ?_⟩
    intro x hx y hy
    have : y = p := by simpa using hy
    subst this
    exact fun e => ok.fresh hp (e ▸ hx)
  · show ∃ u, upd w.H p o a = some u
    rcases List.mem_append.mp h with h | h
    · obtain ⟨u, e⟩ := ok.has a h
      exact ⟨u, by rw [upd_ne (ne_of_none e hp)]; exact e⟩
    · have : a = p := by simpa using h
      subst this
      exact ⟨o, upd_same⟩
  · show a ∉ w.ρ ++ [p]
    rw [List.mem_append, not_or]
    exact ⟨(ok.exl a h).1, by simpa using ok.exn hp h⟩
  · obtain ⟨u, e⟩ := (ok.exl a h).2
    exact ⟨u, by show upd w.H p o a = _; rw [upd_ne (ne_of_none e hp)]; exact e⟩
  · have h1 : (w.ρ ++ [p])[i]? = some a := h1
    have h2 : (w.M ++ [some c])[i]? = some (some c') := h2
    by_cases hi : i < w.ρ.length
    · rw [List.getElem?_append_left hi] at h1
      rw [List.getElem?_append_left (by rw [← ok.len]; exact hi)] at h2
      have q := ok.cells i a c' h1 h2
      obtain ⟨u, e, _⟩ := q.mut
      refine q.mono (Ext.cell ok hp) ?_
      show upd w.H p o a = w.H a
      rw [upd_ne (ne_of_none e hp)]
    · rw [List.getElem?_append_right (by omega)] at h1
      rw [List.getElem?_append_right (by rw [← ok.len]; omega)] at h2
      have e1 : a = p := by
        have := List.mem_of_getElem? h1
        simpa using this
      have e2 : some c' = some c := by
        have := List.mem_of_getElem? h2
        simpa using this
      cases e2
      subst e1
      exact hc

/-- a cell's content changes -/
def Ws.chg (w : Ws) (i : Nat) (a : Addr) (o : HO) (c : Dt) : Ws := { ρ := w.ρ, M := w.M.set i (some c), H := upd w.H a o, ex := w.ex }
theorem live_chg {w : Ws} {i : Nat} {a b : Addr} {o : HO} {c : Dt} (h : w.ρ[i]? = some a) (hl : Live w a) : Live (w.chg i a o c) b → Live w b := by
  rintro ⟨j, c', h1, h2⟩
  have h2 : (w.M.set i (some c))[j]? = some (some c') := h2
  by_cases e : i = j
  · subst e
    have h1 : w.ρ[i]? = some b := h1
    rw [h] at h1; cases h1
    exact hl
  · rw [List.getElem?_set_ne e] at h2
    exact ⟨j, c', h1, h2⟩
theorem Ext.chg {w : Ws} (ok : Ok K W w) {i : Nat} {a : Addr} {o : HO} {c c0 : Dt} (h : w.ρ[i]? = some a) (h0 : w.M[i]? = some (some c0)) : Ext w (w.chg i a o c) := by
  have hl : Live w a := ⟨i, c0, h, h0⟩
  have ha : ∀ b ∈ w.ex, b ≠ a := fun b hb e => (ok.exl b hb).1 (e ▸ List.mem_of_getElem? h)
  refine ⟨⟨⟨[], by simp [Ws.chg]⟩, fun b u e n => ?_, fun b u e n => ⟨?_, fun z => n.nl (live_chg h hl z), n.nx⟩⟩, fun b hb => ?_, fun _ h => h⟩
  · have nb : b ≠ a := by
      rintro rfl
      exact ok.notLive e n hl
    show upd w.H a o b = some u
    rw [upd_ne nb]; exact e
  · have nb : b ≠ a := by
      rintro rfl
      exact n.nl hl
    show upd w.H a o b = some u
    rw [upd_ne nb]; exact e
  · show upd w.H a o b = w.H b
    rw [upd_ne (ha b hb)]
theorem Ok.chg {w : Ws} (ok : Ok K W w) {i : Nat} {a : Addr} {o : HO} {c c0 : Dt} (h : w.ρ[i]? = some a) (h0 : w.M[i]? = some (some c0)) (hc : CellAt K W (w.chg i a o c) a c) : Ok K W (w.chg i a o c) := by
  have hi : i < w.M.length := (List.getElem?_eq_some_iff.mp h0).1
  have all : ∀ b, (∃ u, w.H b = some u) → ∃ u, upd w.H a o b = some u := fun b hb => by
    by_cases e : b = a
    · subst e; exact ⟨o, upd_same⟩
    · rw [upd_ne e]; exact hb
  refine ⟨by simp [Ws.chg, ok.len], ok.nd, fun b hb => all b (ok.has b hb), fun b hb => ⟨(ok.exl b hb).1, all b (ok.exl b hb).2⟩, fun j b c' h1 h2 => ?_⟩
  · have h1 : w.ρ[j]? = some b := h1
    have h2 : (w.M.set i (some c))[j]? = some (some c') := h2
    by_cases e : i = j
    · subst e
      rw [h] at h1; cases h1
      rw [List.getElem?_set_self hi] at h2
      cases h2
      exact hc
    · rw [List.getElem?_set_ne e] at h2
      have nb : b ≠ a := fun z => e (ok.inj h (z ▸ h1))
      refine (ok.cells j b c' h1 h2).mono (Ext.chg ok h h0) ?_
      show upd w.H a o b = w.H b
      rw [upd_ne nb]

/-- a cell is given up: its content is data from now on -/
def Ws.drop (w : Ws) (i : Nat) : Ws := { w with M := w.M.set i none }
theorem live_drop {w : Ws} {i : Nat} {b : Addr} : Live (w.drop i) b → Live w b := by
  rintro ⟨j, c', h1, h2⟩
  have h2 : (w.M.set i none)[j]? = some (some c') := h2
  by_cases e : i = j
  · subst e
    by_cases hi : i < w.M.length
    · rw [List.getElem?_set_self hi] at h2; cases h2
    · rw [List.getElem?_eq_none (by simpa using hi)] at h2; cases h2
  · rw [List.getElem?_set_ne e] at h2
    exact ⟨j, c', h1, h2⟩
theorem Ext.drop {w : Ws} {i : Nat} : Ext w (w.drop i) := ⟨⟨⟨[], by simp [Ws.drop]⟩, fun _ _ h _ => h, fun _ _ h n => ⟨h, fun z => n.nl (live_drop z), n.nx⟩⟩, fun _ _ => rfl, fun _ h => h⟩
theorem Ok.drop {w : Ws} (ok : Ok K W w) {i : Nat} : Ok K W (w.drop i) := by
  refine ⟨by simp [Ws.drop, ok.len], ok.nd, ok.has, ok.exl, fun j b c' h1 h2 => ?_⟩
  have h2 : (w.M.set i none)[j]? = some (some c') := h2
  by_cases e : i = j
  · subst e
    by_cases hi : i < w.M.length
    · rw [List.getElem?_set_self hi] at h2; cases h2
    · rw [List.getElem?_eq_none (by simpa using hi)] at h2; cases h2
  · rw [List.getElem?_set_ne e] at h2
    exact (ok.cells j b c' h1 h2).mono Ext.drop rfl
theorem dead_drop {w : Ws} (ok : Ok K W w) {i : Nat} {a : Addr} (h : w.ρ[i]? = some a) : ¬ Live (w.drop i) a := by
  rintro ⟨j, c', h1, h2⟩
  have e : i = j := ok.inj h h1
  subst e
  have h2 : (w.M.set i none)[i]? = some (some c') := h2
  by_cases hi : i < w.M.length
  · rw [List.getElem?_set_self hi] at h2; cases h2
  · rw [List.getElem?_eq_none (by simpa using hi)] at h2; cases h2
theorem CellAt.freeze {w : Ws} (ok : Ok K W w) {i : Nat} {a : Addr} {c : Dt} (h : w.ρ[i]? = some a) (h0 : w.M[i]? = some (some c)) : Dv K W (w.drop i) (.ref a) c := by
  have q := (ok.cells i a c h h0).mono (Ext.drop (i := i)) rfl
  have n : Fz (w.drop i) a := ⟨dead_drop ok h, fun z => (ok.exl a z).1 (List.mem_of_getElem? h)⟩
  cases c with
  | lst ds => obtain ⟨xs, e, r⟩ := q; exact .lst e n r
  | dic ks vs => obtain ⟨o, es, ep, kx, vx, e, r, k, r1, r2⟩ := q; exact .dic e n r k r1 r2
  | obj C ns vs => obtain ⟨dx, xs, e, l, r⟩ := q; exact .obj e l n r
  | _ => exact q.elim

/-! data that names no cell beyond the first n -/
mutual
def Cl (n : Nat) : Dt → Prop
  | .non => True
  | .bl _ => True
  | .int _ => True
  | .str _ => True
  | .adr _ => True
  | .ty _ => True
  | .ref i => i < n
  | .tup ds => Cls n ds
  | .lst ds => Cls n ds
  | .lsk ds => Cls n ds
  | .dic ks vs => Cls n ks ∧ Cls n vs
  | .obj _ _ vs => Cls n vs
  | .sett ds => Cls n ds
def Cls (n : Nat) : List Dt → Prop
  | [] => True
  | d :: ds => Cl n d ∧ Cls n ds
end
/-- only the first n cells are kept -/
def Ws.cut (w : Ws) (n : Nat) : Ws := { ρ := w.ρ.take n, M := w.M.take n, H := w.H, ex := w.ex }
theorem live_cut {w : Ws} {n : Nat} {b : Addr} : Live (w.cut n) b → Live w b := by
  rintro ⟨j, c', h1, h2⟩
  have h1 : (w.ρ.take n)[j]? = some b := h1
  have h2 : (w.M.take n)[j]? = some (some c') := h2
  rw [List.getElem?_take] at h1 h2
  split at h1
  · rename_i hj
    rw [if_pos hj] at h2
    exact ⟨j, c', h1, h2⟩
  · cases h1
theorem fz_cut {w : Ws} {n : Nat} {b : Addr} (h : Fz w b) : Fz (w.cut n) b := ⟨fun z => h.nl (live_cut z), h.nx⟩
mutual
theorem Dv.cut {w : Ws} {n : Nat} : ∀ (d : Dt) (v : V), Cl n d → Dv K W w v d → Dv K W (w.cut n) v d
  | .non, _, _, h => by cases h; exact .non
  | .bl b, _, _, h => by cases h; exact .bl b
  | .int i, _, _, h => by cases h; exact .int i
  | .str x, _, _, h => by cases h; exact .str x
  | .adr a, _, _, h => by cases h; exact .adr a
  | .ty n, _, _, h => by cases h; exact .ty n
  | .ref i, _, c, h => by
    cases h with
    | ref h =>
      refine .ref ?_
      show (w.ρ.take n)[i]? = _
      rw [List.getElem?_take, if_pos (show i < n by simpa [Cl] using c)]
      exact h
  | .tup ds, _, c, h => by cases h with | tup h1 h2 => exact .tup h1 (Dvs.cut ds _ (by simpa [Cl] using c) h2)
  | .lst ds, _, c, h => by
    cases h with
    | lst h1 n h2 => exact .lst h1 (fz_cut n) (Dvs.cut ds _ (by simpa [Cl] using c) h2)
  | .lsk ds, _, c, h => by cases h with | lstK h1 h2 => exact .lstK h1 (Dvs.cut ds _ (by simpa [Cl] using c) h2)
  | .dic ks vs, _, c, h => by
    have c : Cls n ks ∧ Cls n vs := by simpa [Cl] using c
    cases h with
    | dic h1 n r k h2 h3 => exact .dic h1 (fz_cut n) r k (Dvs.cut ks _ c.1 h2) (Dvs.cut vs _ c.2 h3)
    | dicK h1 r k h2 h3 => exact .dicK h1 r k (Dvs.cut ks _ c.1 h2) (Dvs.cut vs _ c.2 h3)
  | .obj C ns vs, _, c, h => by
    cases h with
    | obj h1 l n h2 => exact .obj h1 l (fz_cut n) (Dvs.cut vs _ (by simpa [Cl] using c) h2)
  | .sett _, _, _, h => by cases h
theorem Dvs.cut {w : Ws} {n : Nat} : ∀ (ds : List Dt) (vs : List V), Cls n ds → Dvs K W w vs ds → Dvs K W (w.cut n) vs ds
  | [], _, _, h => by cases h; exact .nil
  | d :: ds, _, c, h => by
    have c : Cl n d ∧ Cls n ds := by simpa [Cls] using c
    cases h with
    | cons h1 h2 => exact .cons (Dv.cut d _ c.1 h1) (Dvs.cut ds _ c.2 h2)
end
theorem CellAt.cut {w : Ws} {n : Nat} {a : Addr} : ∀ {c : Dt}, Cl n c → CellAt K W w a c → CellAt K W (w.cut n) a c
  | .lst ds, k, ⟨xs, h, r⟩ => ⟨xs, h, r.cut _ _ (by simpa [Cl] using k)⟩
  | .dic ks vs, k, ⟨o, es, ep, kx, vx, h, r, q, r1, r2⟩ => by
    have k : Cls n ks ∧ Cls n vs := by simpa [Cl] using k
    exact ⟨o, es, ep, kx, vx, h, r, q, r1.cut _ _ k.1, r2.cut _ _ k.2⟩
  | .obj C ns vs, k, ⟨dx, xs, h, l, r⟩ => ⟨dx, xs, h, l, r.cut _ _ (by simpa [Cl] using k)⟩
mutual
/-- what is related in a state names its cells alone -/
theorem Dv.cl {w : Ws} : ∀ (d : Dt) (v : V), Dv K W w v d → Cl w.ρ.length d
  | .non, _, _ => by simp [Cl]
  | .bl b, _, _ => by simp [Cl]
  | .int i, _, _ => by simp [Cl]
  | .str x, _, _ => by simp [Cl]
  | .adr a, _, _ => by simp [Cl]
  | .ty n, _, _ => by simp [Cl]
  | .ref i, _, h => by cases h with | ref h => simpa [Cl] using (List.getElem?_eq_some_iff.mp h).1
  | .tup ds, _, h => by cases h with | tup _ h2 => simpa [Cl] using Dvs.cl ds _ h2
  | .lst ds, _, h => by
    cases h with
    | lst _ _ h2 => simpa [Cl] using Dvs.cl ds _ h2
  | .lsk ds, _, h => by cases h with | lstK _ h2 => simpa [Cl] using Dvs.cl ds _ h2
  | .dic ks vs, _, h => by
    cases h with
    | dic _ _ _ _ h2 h3 => simpa [Cl] using And.intro (Dvs.cl ks _ h2) (Dvs.cl vs _ h3)
    | dicK _ _ _ h2 h3 => simpa [Cl] using And.intro (Dvs.cl ks _ h2) (Dvs.cl vs _ h3)
  | .obj C ns vs, _, h => by cases h with | obj _ _ _ h2 => simpa [Cl] using Dvs.cl vs _ h2
  | .sett _, _, h => by cases h
theorem Dvs.cl {w : Ws} : ∀ (ds : List Dt) (vs : List V), Dvs K W w vs ds → Cls w.ρ.length ds
  | [], _, _ => by simp [Cls]
  | d :: ds, _, h => by
    cases h with
    | cons h1 h2 => simpa [Cls] using And.intro (Dv.cl d _ h1) (Dvs.cl ds _ h2)
end
theorem CellAt.cl {w : Ws} {a : Addr} : ∀ {c : Dt}, CellAt K W w a c → Cl w.ρ.length c
  | .lst ds, ⟨xs, h, r⟩ => by simpa [Cl] using r.cl
  | .dic ks vs, ⟨o, es, ep, kx, vx, h, r, q, r1, r2⟩ => by simpa [Cl] using And.intro r1.cl r2.cl
  | .obj C ns vs, ⟨dx, xs, h, l, r⟩ => by simpa [Cl] using r.cl

/-- a call's end: the cells made within are given up -/
theorem Ok.cut {w0 w : Ws} (ok0 : Ok K W w0) (ok : Ok K W w) (e : Ext w0 w) (hk : ∀ (i : Nat) (c : Dt), i < w0.M.length → w.M[i]? = some (some c) → w0.M[i]? = some (some c) ∨ Cl w0.M.length c) : Ok K W (w.cut w0.M.length) := by
  refine ⟨by simp [Ws.cut, ok.len], ok.nd.sublist (List.take_sublist _ _), fun a h => ok.has a (List.mem_of_mem_take h), fun a h => ⟨fun z => (ok.exl a h).1 (List.mem_of_mem_take z), (ok.exl a h).2⟩, fun j b c h1 h2 => ?_⟩
  have h1 : (w.ρ.take w0.M.length)[j]? = some b := h1
  have h2 : (w.M.take w0.M.length)[j]? = some (some c) := h2
  rw [List.getElem?_take] at h1 h2
  split at h1
  · rename_i hj
    rw [if_pos hj] at h2
    refine (ok.cells j b c h1 h2).cut ?_
    rcases hk j c hj h2 with q | q
    · have hj0 : j < w0.ρ.length := by rw [ok0.len]; exact hj
      have := (ok0.cells j _ c (List.getElem?_eq_getElem hj0) q).cl
      rwa [ok0.len] at this
    · exact q
  · cases h1
theorem Ext.cut {w0 w : Ws} (ok0 : Ok K W w0) (e : Ext w0 w) : Ext w0 (w.cut w0.M.length) := by
  refine ⟨⟨⟨[], ?_⟩, e.imm, fun a o h n => ?_⟩, e.hid, e.exm⟩
  · obtain ⟨t, q⟩ := e.pre
    show w.ρ.take _ = _
    rw [q, ← ok0.len, List.take_left', List.append_nil]
    rfl
  · obtain ⟨h1, n1⟩ := e.frz a o h n
    exact ⟨h1, fz_cut n1⟩
end
end DL
/-! The data layer, part b: expressions, tests, statements as plain functions. -/
namespace DL
open PySem PySem.Spec PyProof.Rows L2

abbrev Sl := List (Option Dt)
abbrev EM := Sl → Mem → Option (Dt × Mem)
abbrev AM := Sl → Mem → Option (List Dt × Mem)
abbrev TM := Sl → Mem → Option (Bool × Mem)
inductive Fl where
  | nx | bk | ct | rt (d : Dt)
abbrev SM := Sl → Mem → Option (Fl × Sl × Mem)
abbrev FM := List Dt → Mem → Option (Dt × Mem)

/-- the slots as data -/
structure EnvR (K : PySem.W.Frag) (W : World) (w : Ws) (σ : L2.St) (e : Sl) : Prop where
  len : e.length = σ.length
  get : ∀ (i : Nat) (d : Dt), e[i]? = some (some d) → ∃ v, σ[i]? = some (some v) ∧ Dv K W w v d
theorem EnvR.mono {K : PySem.W.Frag} {W : World} {w w' : Ws} {σ : L2.St} {e : Sl} (r : EnvR K W w σ e) (x : Ext w w') : EnvR K W w' σ e :=
  ⟨r.len, fun i d h => let ⟨v, h1, h2⟩ := r.get i d h; ⟨v, h1, h2.mono x⟩⟩
theorem EnvR.set {K : PySem.W.Frag} {W : World} {w : Ws} {σ : L2.St} {e : Sl} (r : EnvR K W w σ e) {v : V} {d : Dt} (h : Dv K W w v d) (i : Nat) : EnvR K W w (σ.set i (some v)) (e.set i (some d)) := by
  refine ⟨by simp [r.len], fun j d' h' => ?_⟩
  by_cases e1 : i = j
  · subst e1
    by_cases hi : i < e.length
    · rw [List.getElem?_set_self hi] at h'
      cases h'
      exact ⟨v, by rw [List.getElem?_set_self (by rw [← r.len]; exact hi)], h⟩
    · rw [List.getElem?_eq_none (by simpa using hi)] at h'; cases h'
  · rw [List.getElem?_set_ne e1] at h' ⊢
    exact r.get j d' h'

/-- what an end wants: any state that keeps w, holds M', and a value that is d -/
def Fin1 (K : PySem.W.Frag) (W : World) (w : Ws) (d : Dt) (M' : Mem) (Q : VK) : Prop := ∀ w' v, w'.M = M' → Ok K W w' → Ext w w' → Dv K W w' v d → Q v w'.H
def tE (K : PySem.W.Frag) (W : World) (m : EM) : TE := fun σ H Q => ∃ w e d M', w.H = H ∧ Ok K W w ∧ EnvR K W w σ e ∧ m e w.M = some (d, M') ∧ Fin1 K W w d M' Q
def tA (K : PySem.W.Frag) (W : World) (m : AM) : TA := fun σ H Q => ∃ w e ds M', w.H = H ∧ Ok K W w ∧ EnvR K W w σ e ∧ m e w.M = some (ds, M') ∧
  ∀ w' vs, w'.M = M' → Ok K W w' → Ext w w' → Dvs K W w' vs ds → Q vs w'.H
def tT (K : PySem.W.Frag) (W : World) (m : TM) : TT := fun σ H Q => ∃ w e b M', w.H = H ∧ Ok K W w ∧ EnvR K W w σ e ∧ m e w.M = some (b, M') ∧
  ∀ w', w'.M = M' → Ok K W w' → Ext w w' → Q b w'.H
/-- a statement's end -/
def FinS (K : PySem.W.Frag) (W : World) (D : Ends) (w' : Ws) (e' : Sl) : Fl → Prop
  | .nx => ∀ σ', EnvR K W w' σ' e' → D.nx σ' w'.H
  | .bk => ∀ σ', EnvR K W w' σ' e' → D.bk σ' w'.H
  | .ct => ∀ σ', EnvR K W w' σ' e' → D.ct σ' w'.H
  | .rt d => ∀ v, Dv K W w' v d → D.rt v w'.H
def tS (K : PySem.W.Frag) (W : World) (m : SM) : TS := fun D σ H => ∃ w e f e' M', w.H = H ∧ Ok K W w ∧ EnvR K W w σ e ∧ m e w.M = some (f, e', M') ∧
  ∀ w', w'.M = M' → Ok K W w' → Ext w w' → FinS K W D w' e' f

abbrev RE (X : Cx) (e : Expr) (m : EM) : Prop := PE X e (tE X.K X.w m)
abbrev RA (X : Cx) (es : List Expr) (m : AM) : Prop := PA X es (tA X.K X.w m)
abbrev RT (X : Cx) (e : Expr) (m : TM) : Prop := PT X e (tT X.K X.w m)
abbrev RW (X : Cx) (e : Expr) (m : TM) : Prop := PW X e (tT X.K X.w m)
abbrev RS (X : Cx) (st : Stmt) (m : SM) : Prop := PS X st (tS X.K X.w m)
abbrev RSs (X : Cx) (st : List Stmt) (m : SM) : Prop := PSs X st (tS X.K X.w m)

section
variable {X : Cx} {e : Expr} {es : List Expr} {st : Stmt} {sts : List Stmt}
theorem pe_weak {t t' : TE} (h : PE X e t) (k : ∀ σ H Q, t' σ H Q → t σ H Q) : PE X e t' := ⟨fun pins s σ H Q I q => h.run pins s σ H Q I (k σ H Q q)⟩
theorem pa_weak {t t' : TA} (h : PA X es t) (k : ∀ σ H Q, t' σ H Q → t σ H Q) : PA X es t' := ⟨fun pos pins s σ H Q I q => h.run pos pins s σ H Q I (k σ H Q q)⟩
theorem pt_weak {t t' : TT} (h : PT X e t) (k : ∀ σ H Q, t' σ H Q → t σ H Q) : PT X e t' := ⟨fun pins s σ H Q I q => h.run pins s σ H Q I (k σ H Q q)⟩
theorem pw_weak {t t' : TT} (h : PW X e t) (k : ∀ σ H Q, t' σ H Q → t σ H Q) : PW X e t' := ⟨fun wh pins s σ H Q I q => h.run wh pins s σ H Q I (k σ H Q q)⟩
theorem ps_weak {t t' : TS} (h : PS X st t) (k : ∀ D σ H, t' D σ H → t D σ H) : PS X st t' := ⟨fun pins s σ H D I q => h.run pins s σ H D I (k D σ H q)⟩
theorem pss_weak {t t' : TS} (h : PSs X sts t) (k : ∀ D σ H, t' D σ H → t D σ H) : PSs X sts t' := ⟨fun pins s σ H D I q => h.run pins s σ H D I (k D σ H q)⟩
end

/-! ### sequencing -/
def thn1 {α β : Type} (m : Option (α × Mem)) (f : α → Mem → Option β) : Option β := match m with
  | some (a, M) => f a M
  | none => none
@[simp] theorem thn1_some {α β : Type} (a : α) (M : Mem) (f : α → Mem → Option β) : thn1 (some (a, M)) f = f a M := rfl
@[simp] theorem thn1_none {α β : Type} (f : α → Mem → Option β) : thn1 none f = none := rfl
theorem thn1_eq {α β : Type} {m : Option (α × Mem)} {f : α → Mem → Option β} {b : β} (h : thn1 m f = some b) : ∃ a M, m = some (a, M) ∧ f a M = some b := by
  cases m with
  | none => simp at h
  | some p => exact ⟨p.1, p.2, rfl, h⟩
/-- a pure partial function of the cells -/
def pur {α : Type} (o : Option α) (M : Mem) : Option (α × Mem) := o.map fun a => (a, M)
@[simp] theorem pur_some {α : Type} (a : α) (M : Mem) : pur (some a) M = some (a, M) := rfl
@[simp] theorem pur_none {α : Type} (M : Mem) : pur (none : Option α) M = none := rfl
theorem pur_eq {α : Type} {o : Option α} {M M' : Mem} {a : α} (h : pur o M = some (a, M')) : M' = M ∧ o = some a := by
  cases o with
  | none => simp at h
  | some b => simp at h; exact ⟨h.2.symm, by rw [h.1]⟩

section
variable {X : Cx} {K : PySem.W.Frag} {W : World}
theorem fin_here {w : Ws} {d : Dt} {Q : VK} {v : V} (f : Fin1 K W w d w.M Q) (ok : Ok K W w) (r : Dv K W w v d) : Q v w.H := f w v rfl ok (Ext.refl w) r
theorem Fin1.after {w w1 : Ws} {d : Dt} {M' : Mem} {Q : VK} (f : Fin1 K W w d M' Q) (x : Ext w w1) : Fin1 K W w1 d M' Q := fun w' v hm ok x' r => f w' v hm ok (x.trans x') r
/-- a rule of HandS as a rule of data -/
theorem re_of {e : Expr} {t : TE} {m : EM} (h : PE X e t) (k : ∀ w σ sl d M' Q, Ok X.K X.w w → EnvR X.K X.w w σ sl → m sl w.M = some (d, M') → Fin1 X.K X.w w d M' Q → t σ w.H Q) : RE X e m :=
  pe_weak h fun σ H Q ⟨w, sl, d, M', hH, ok, r, hm, f⟩ => by subst hH; exact k w σ sl d M' Q ok r hm f

/-! ### names and constants -/
def varE (i : Nat) : EM := fun e M => match e[i]? with
  | some (some d) => some (d, M)
  | _ => none
theorem re_var {i : Nat} {x : Str} {pos : Pos} (hN : X.N[i]? = some x := by rfl) (hv : Vis X.env.scope x := by first | exact Or.inl rfl | exact Or.inr (Or.inl rfl) | exact Or.inr (Or.inr rfl)) (hd : (x == ("__debug__" : Str)) = false := by decide)
    (hcd : (x == ("__classdict__" : Str)) = false := by decide) : RE X (.Name x pos) (varE i) := by
  refine re_of (pe_var hN hv hd hcd) fun w σ sl d M' Q ok r hm f => ?_
  unfold varE at hm
  split at hm
  · rename_i d' hd'
    cases hm
    obtain ⟨v, h1, h2⟩ := r.get i _ hd'
    exact ⟨v, h1, fin_here f ok h2⟩
  · cases hm
def cE (d : Dt) : EM := fun _ M => some (d, M)
theorem re_con {e : Expr} {v : V} {d : Dt} (h : PE X e (tC v)) (r : ∀ w, Dv X.K X.w w v d) : RE X e (cE d) := by
  refine re_of h fun w σ sl d' M' Q ok _ hm f => ?_
  cases hm
  exact fin_here f ok (r w)
theorem re_int {i : Int} {j pos} : RE X (.Constant (.int i) j pos) (cE (.int i)) := re_con pe_int fun _ => .int i
theorem re_str {x : Str} {j pos} : RE X (.Constant (.str x) j pos) (cE (.str x)) := re_con pe_str fun _ => .str x
theorem re_bl {b : Bool} {j pos} : RE X (.Constant (.bool b) j pos) (cE (.bl b)) := re_con pe_bl fun _ => .bl b
theorem re_non {j pos} : RE X (.Constant .none j pos) (cE .non) := re_con pe_non fun _ => .non
theorem re_ty {x : Str} {n : String} {pos : Pos} (hg : Gl X x) (hm : X.mg x = none) (hv : bootBuiltins x = some (.type n)) (hn : x ≠ "__name__" := by decide) (hd : (x == ("__debug__" : Str)) = false := by decide) : RE X (.Name x pos) (cE (.ty n)) :=
  re_con (pe_bltn (v := .ty n) hg hm hv rfl hn hd) fun _ => .ty n

/-! ### operators -/
/-- g is what the operator's rule r does on data -/
def R2Ok (K : PySem.W.Frag) (W : World) (r : R2) (g : Dt → Dt → Mem → Option (Dt × Mem)) : Prop :=
  ∀ (w : Ws) (x y : V) (a b d : Dt) (M' : Mem) (Q : VK), Ok K W w → Dv K W w x a → Dv K W w y b → g a b w.M = some (d, M') → Fin1 K W w d M' Q → r x y w.H Q
def opE (g : Dt → Dt → Mem → Option (Dt × Mem)) (a b : EM) : EM := fun e M => thn1 (a e M) fun x M1 => thn1 (b e M1) fun y M2 => g x y M2
theorem opE_ok {r : R2} {g : Dt → Dt → Mem → Option (Dt × Mem)} {ma mb : EM} (hg : R2Ok K W r g) (σ : L2.St) (H : Hp) (Q : VK) (h : tE K W (opE g ma mb) σ H Q) : tOp r (tE K W ma) (tE K W mb) σ H Q := by
  obtain ⟨w, sl, d, M', rfl, ok, er, hm, f⟩ := h
  obtain ⟨a, M1, h1, hm⟩ := thn1_eq hm
  obtain ⟨b, M2, h2, hm⟩ := thn1_eq hm
  refine ⟨w, sl, a, M1, rfl, ok, er, h1, fun w1 x hM1 ok1 x1 rx => ?_⟩
  refine ⟨w1, sl, b, M2, rfl, ok1, er.mono x1, by rw [hM1]; exact h2, fun w2 y hM2 ok2 x2 ry => ?_⟩
  exact hg w2 x y a b d M' Q ok2 (rx.mono x2) ry (by rw [hM2]; exact hm) (f.after (x1.trans x2))
theorem re_op {a b : Expr} {op : Operator} {pos : Pos} {r : R2} {g} {ma mb : EM} (ho : OpR X (binaryOp op) r) (hg : R2Ok X.K X.w r g) (ha : RE X a ma) (hb : RE X b mb) : RE X (.BinOp a op b pos) (opE g ma mb) :=
  pe_weak (pe_op ho ha hb) (opE_ok hg)
theorem re_cmp {a b : Expr} {op : CmpOp} {pos : Pos} {r : R2} {g} {ma mb : EM} (ho : OpR X (compareOp op) r) (hg : R2Ok X.K X.w r g) (hm : behindInMarks op b = false) (ha : RE X a ma) (hb : RE X b mb) : RE X (.Compare a [op] [b] pos) (opE g ma mb) :=
  pe_weak (pe_cmpR ho ha hb hm) (opE_ok hg)
/-- a bool as a test -/
def blT (m : EM) : TM := fun e M => thn1 (m e M) fun d M1 => match d with
  | .bl b => some (b, M1)
  | _ => none
theorem blT_ok {m : EM} {t : TE} (k : ∀ σ H Q, tE K W m σ H Q → t σ H Q) (σ : L2.St) (H : Hp) (Q : Bool → Hp → Prop) (h : tT K W (blT m) σ H Q) : tTest t σ H Q := by
  obtain ⟨w, sl, b, M', rfl, ok, er, hm, f⟩ := h
  obtain ⟨d, M1, h1, hm⟩ := thn1_eq hm
  refine k _ _ _ ⟨w, sl, d, M1, rfl, ok, er, h1, fun w1 v hM1 ok1 x1 r => ?_⟩
  cases d with
  | bl c =>
    simp at hm
    obtain ⟨rfl, rfl⟩ := hm
    cases r
    exact ⟨c, rfl, f w1 hM1 ok1 x1⟩
  | _ => simp at hm
theorem rt_cmp {a b : Expr} {op : CmpOp} {pos : Pos} {r : R2} {g} {ma mb : EM} (ho : OpR X (compareOp op) r) (hg : R2Ok X.K X.w r g) (hm : behindInMarks op b = false) (ha : RE X a ma) (hb : RE X b mb) : RT X (.Compare a [op] [b] pos) (blT (opE g ma mb)) :=
  pt_weak (pt_cmpR ho ha hb hm) (blT_ok (opE_ok hg))
/-- one place -/
def unE (g : Dt → Option Dt) (a : EM) : EM := fun e M => thn1 (a e M) fun x M1 => pur (g x) M1
def U1Ok (K : PySem.W.Frag) (W : World) (r : V → Hp → VK → Prop) (g : Dt → Option Dt) : Prop :=
  ∀ (w : Ws) (x : V) (a d : Dt) (Q : VK), Ok K W w → Dv K W w x a → g a = some d → Fin1 K W w d w.M Q → r x w.H Q
theorem re_un {a : Expr} {op : UnaryOp} {pos : Pos} {r : V → Hp → VK → Prop} {g} {ma : EM} (ho : UnR X (unaryOp op) r) (hg : U1Ok X.K X.w r g) (ha : RE X a ma) : RE X (.UnaryOp op a pos) (unE g ma) := by
  refine pe_weak (pe_un ho ha) fun σ H Q h => ?_
  obtain ⟨w, sl, d, M', rfl, ok, er, hm, f⟩ := h
  obtain ⟨x, M1, h1, hm⟩ := thn1_eq hm
  obtain ⟨rfl, hm'⟩ := pur_eq hm
  refine ⟨w, sl, x, _, rfl, ok, er, h1, fun w1 v hM1 ok1 x1 r => ?_⟩
  refine hg w1 v x d Q ok1 r hm' ?_
  rw [hM1]
  exact f.after x1
def negD : Dt → Option Dt
  | .int i => some (.int (-i))
  | _ => none
theorem neg_ok : U1Ok K W (rU fun i => .int (-i)) negD := by
  intro w x a d Q ok r h f
  cases r <;> simp [negD] at h
  subst h
  exact ⟨_, rfl, fin_here f ok (.int _)⟩

/-! ### tests -/
def truthD (M : Mem) : Dt → Option Bool
  | .non => some false
  | .bl b => some b
  | .int i => some (i != 0)
  | .str x => if x.length ≤ sizeLine then some ((x.length : Int) != 0) else none
  | .tup ds => some (!ds.isEmpty)
  | .lst ds => some (!ds.isEmpty)
  | .lsk ds => some (!ds.isEmpty)
  | .ref i => match M[i]? with
    | some (some (.lst ds)) => some (!ds.isEmpty)
    | _ => none
  | _ => none
theorem Dvs.isEmpty {w : Ws} {xs : List V} {ds : List Dt} (h : Dvs K W w xs ds) : xs.isEmpty = ds.isEmpty := by cases h <;> rfl
theorem truth_ok {w : Ws} {v : V} {d : Dt} {b : Bool} (ok : Ok K W w) (r : Dv K W w v d) (h : truthD w.M d = some b) : TruV K v w.H b := by
  cases r with
  | non => simp [truthD] at h; exact h
  | bl c => simp [truthD] at h; exact h.symm
  | int i => simp only [truthD, Option.some.injEq] at h; exact h.symm
  | str x =>
    simp only [truthD] at h
    split at h
    · rename_i hl
      cases h
      exact ⟨hl, rfl⟩
    · cases h
  | adr a => simp [truthD] at h
  | ty n => simp [truthD] at h
  | tup h1 h2 => simp only [truthD, Option.some.injEq] at h; exact .inr (.inl ⟨_, h1, by rw [h2.isEmpty]; exact h.symm⟩)
  | lst h1 _ h2 => simp only [truthD, Option.some.injEq] at h; exact .inl ⟨_, SqL.of h1, by rw [h2.isEmpty]; exact h.symm⟩
  | lstK h1 h2 => simp only [truthD, Option.some.injEq] at h; exact .inl ⟨_, h1.sq, by rw [h2.isEmpty]; exact h.symm⟩
  | ref hr =>
    simp only [truthD] at h
    split at h
    · rename_i ds hm
      obtain ⟨xs, e, q⟩ := ok.cells _ _ _ hr hm
      simp only [Option.some.injEq] at h
      exact .inl ⟨_, SqL.of e, by rw [q.isEmpty]; exact h.symm⟩
    · cases h
  | dic => simp [truthD] at h
  | dicK => simp [truthD] at h
  | obj => simp [truthD] at h
def truT (m : EM) : TM := fun e M => thn1 (m e M) fun d M1 => pur (truthD M1 d) M1
theorem rt_tru {e : Expr} {m : EM} (h : RE X e m) (he : ∀ whole, isTrue e X.env whole = (do let v ← whole; standAt e.pos; holding [v] (truthy v)) := by intro _; rfl) : RT X e (truT m) := by
  refine pt_weak (pt_truth h he) fun σ H Q q => ?_
  obtain ⟨w, sl, b, M', rfl, ok, er, hm, f⟩ := q
  obtain ⟨d, M1, h1, hm⟩ := thn1_eq hm
  obtain ⟨rfl, hm'⟩ := pur_eq hm
  refine ⟨w, sl, d, _, rfl, ok, er, h1, fun w1 v hM1 ok1 x1 r => ⟨b, truth_ok ok1 r (by rw [hM1]; exact hm'), f w1 hM1 ok1 x1⟩⟩
def andT (a b : TM) : TM := fun e M => thn1 (a e M) fun c M1 => if c = true then b e M1 else some (false, M1)
def orT (a b : TM) : TM := fun e M => thn1 (a e M) fun c M1 => if c = true then some (true, M1) else b e M1
def notT (a : TM) : TM := fun e M => thn1 (a e M) fun c M1 => some (!c, M1)
theorem rw_and1 {a : Expr} {pos : Pos} {ma : TM} (ha : RT X a ma) : RW X (.BoolOp .And [a] pos) ma := pw_and1 ha
theorem rw_or1 {a : Expr} {pos : Pos} {ma : TM} (ha : RT X a ma) : RW X (.BoolOp .Or [a] pos) ma := pw_or1 ha
theorem rw_and {a b : Expr} {rest : List Expr} {pos : Pos} {ma mb : TM} (ha : RT X a ma) (hb : RW X (.BoolOp .And (b :: rest) pos) mb) : RW X (.BoolOp .And (a :: b :: rest) pos) (andT ma mb) := by
  refine pw_weak (pw_and ha hb) fun σ H Q q => ?_
  obtain ⟨w, sl, b, M', rfl, ok, er, hm, f⟩ := q
  obtain ⟨c, M1, h1, hm⟩ := thn1_eq hm
  refine ⟨w, sl, c, M1, rfl, ok, er, h1, fun w1 hM1 ok1 x1 => ?_⟩
  cases c with
  | true => exact ⟨w1, sl, b, M', rfl, ok1, er.mono x1, by rw [hM1]; exact hm, fun w2 h2 ok2 x2 => f w2 h2 ok2 (x1.trans x2)⟩
  | false =>
    simp at hm
    obtain ⟨rfl, rfl⟩ := hm
    exact f w1 hM1 ok1 x1
theorem rw_or {a b : Expr} {rest : List Expr} {pos : Pos} {ma mb : TM} (ha : RT X a ma) (hb : RW X (.BoolOp .Or (b :: rest) pos) mb) : RW X (.BoolOp .Or (a :: b :: rest) pos) (orT ma mb) := by
  refine pw_weak (pw_or ha hb) fun σ H Q q => ?_
  obtain ⟨w, sl, b, M', rfl, ok, er, hm, f⟩ := q
  obtain ⟨c, M1, h1, hm⟩ := thn1_eq hm
  refine ⟨w, sl, c, M1, rfl, ok, er, h1, fun w1 hM1 ok1 x1 => ?_⟩
  cases c with
  | false => exact ⟨w1, sl, b, M', rfl, ok1, er.mono x1, by rw [hM1]; exact hm, fun w2 h2 ok2 x2 => f w2 h2 ok2 (x1.trans x2)⟩
  | true =>
    simp at hm
    obtain ⟨rfl, rfl⟩ := hm
    exact f w1 hM1 ok1 x1
theorem rt_not {a : Expr} {pos : Pos} {ma : TM} (ha : RT X a ma) : RT X (.UnaryOp .Not a pos) (notT ma) := by
  refine pt_weak (pt_not ha) fun σ H Q q => ?_
  obtain ⟨w, sl, b, M', rfl, ok, er, hm, f⟩ := q
  obtain ⟨c, M1, h1, hm⟩ := thn1_eq hm
  simp only [Option.some.injEq, Prod.mk.injEq] at hm
  obtain ⟨rfl, rfl⟩ := hm
  exact ⟨w, sl, c, M1, rfl, ok, er, h1, fun w1 hM1 ok1 x1 => f w1 hM1 ok1 x1⟩
theorem rt_w {e : Expr} {m : TM} (h : RW X e m) : RT X e m := h.pt
/-- and, or, not as values: all but the last are bools -/
def andE (a b : EM) : EM := fun e M => thn1 (a e M) fun c M1 => match c with
  | .bl true => b e M1
  | .bl false => some (.bl false, M1)
  | _ => none
def orE (a b : EM) : EM := fun e M => thn1 (a e M) fun c M1 => match c with
  | .bl true => some (.bl true, M1)
  | .bl false => b e M1
  | _ => none
def notD : Dt → Option Dt
  | .bl b => some (.bl (!b))
  | _ => none
theorem re_one {op} {a : Expr} {pos : Pos} {m : EM} (h : RE X a m) : RE X (.BoolOp op [a] pos) m := pe_one h
theorem re_and {a b : Expr} {rest : List Expr} {pos : Pos} {ma mb : EM} (ha : RE X a ma) (hb : RE X (.BoolOp .And (b :: rest) pos) mb) : RE X (.BoolOp .And (a :: b :: rest) pos) (andE ma mb) := by
  refine pe_weak (pe_and ha hb) fun σ H Q q => ?_
  obtain ⟨w, sl, d, M', rfl, ok, er, hm, f⟩ := q
  obtain ⟨c, M1, h1, hm⟩ := thn1_eq hm
  refine ⟨w, sl, c, M1, rfl, ok, er, h1, fun w1 v hM1 ok1 x1 r => ?_⟩
  cases c with
  | bl c =>
    cases r
    refine ⟨c, rfl, ?_⟩
    cases c with
    | true => exact ⟨w1, sl, d, M', rfl, ok1, er.mono x1, by rw [hM1]; exact hm, f.after x1⟩
    | false =>
      simp at hm
      obtain ⟨rfl, rfl⟩ := hm
      exact f w1 _ hM1 ok1 x1 (.bl _)
  | _ => simp at hm
theorem re_or {a b : Expr} {rest : List Expr} {pos : Pos} {ma mb : EM} (ha : RE X a ma) (hb : RE X (.BoolOp .Or (b :: rest) pos) mb) : RE X (.BoolOp .Or (a :: b :: rest) pos) (orE ma mb) := by
  refine pe_weak (pe_or ha hb) fun σ H Q q => ?_
  obtain ⟨w, sl, d, M', rfl, ok, er, hm, f⟩ := q
  obtain ⟨c, M1, h1, hm⟩ := thn1_eq hm
  refine ⟨w, sl, c, M1, rfl, ok, er, h1, fun w1 v hM1 ok1 x1 r => ?_⟩
  cases c with
  | bl c =>
    cases r
    refine ⟨c, rfl, ?_⟩
    cases c with
    | false => exact ⟨w1, sl, d, M', rfl, ok1, er.mono x1, by rw [hM1]; exact hm, f.after x1⟩
    | true =>
      simp at hm
      obtain ⟨rfl, rfl⟩ := hm
      exact f w1 _ hM1 ok1 x1 (.bl _)
  | _ => simp at hm
theorem re_not {a : Expr} {pos : Pos} {ma : EM} (ha : RE X a ma) : RE X (.UnaryOp .Not a pos) (unE notD ma) := by
  refine pe_weak (pe_not ha) fun σ H Q q => ?_
  obtain ⟨w, sl, d, M', rfl, ok, er, hm, f⟩ := q
  obtain ⟨c, M1, h1, hm⟩ := thn1_eq hm
  obtain ⟨rfl, hm'⟩ := pur_eq hm
  refine ⟨w, sl, c, _, rfl, ok, er, h1, fun w1 v hM1 ok1 x1 r => ?_⟩
  cases c with
  | bl c =>
    cases r
    simp [notD] at hm'
    subst hm'
    exact ⟨_, rfl, f w1 _ hM1 ok1 x1 (.bl _)⟩
  | _ => simp [notD] at hm'
def ifE (t : TM) (a b : EM) : EM := fun e M => thn1 (t e M) fun c M1 => if c = true then a e M1 else b e M1
theorem re_if {c a b : Expr} {pos : Pos} {mc : TM} {ma mb : EM} (hc : RT X c mc) (ha : RE X a ma) (hb : RE X b mb) : RE X (.IfExp c a b pos) (ifE mc ma mb) := by
  refine pe_weak (pe_ifExp hc ha hb) fun σ H Q q => ?_
  obtain ⟨w, sl, d, M', rfl, ok, er, hm, f⟩ := q
  obtain ⟨c, M1, h1, hm⟩ := thn1_eq hm
  refine ⟨w, sl, c, M1, rfl, ok, er, h1, fun w1 hM1 ok1 x1 => ?_⟩
  cases c with
  | true => exact ⟨w1, sl, d, M', rfl, ok1, er.mono x1, by rw [hM1]; exact hm, f.after x1⟩
  | false => exact ⟨w1, sl, d, M', rfl, ok1, er.mono x1, by rw [hM1]; exact hm, f.after x1⟩

/-! ### argument lists, displays -/
def nilA : AM := fun _ M => some ([], M)
def consA (a : EM) (r : AM) : AM := fun e M => thn1 (a e M) fun x M1 => thn1 (r e M1) fun xs M2 => some (x :: xs, M2)
theorem ra_nil : RA X [] nilA := by
  refine pa_weak pa_nil fun σ H Q q => ?_
  obtain ⟨w, sl, d, M', rfl, ok, er, hm, f⟩ := q
  cases hm
  exact f w [] rfl ok (Ext.refl w) .nil
theorem ra_cons {e : Expr} {es : List Expr} {me : EM} {mr : AM} (ha : RE X e me) (hr : RA X es mr) (hs : starEach (e :: es) X.env = (false, eval e X.env) :: starEach es X.env := by rfl) : RA X (e :: es) (consA me mr) := by
  refine pa_weak (pa_cons ha hr hs) fun σ H Q q => ?_
  obtain ⟨w, sl, d, M', rfl, ok, er, hm, f⟩ := q
  obtain ⟨a, M1, h1, hm⟩ := thn1_eq hm
  obtain ⟨b, M2, h2, hm⟩ := thn1_eq hm
  cases hm
  refine ⟨w, sl, a, M1, rfl, ok, er, h1, fun w1 x hM1 ok1 x1 rx => ?_⟩
  refine ⟨w1, sl, b, M', rfl, ok1, er.mono x1, by rw [hM1]; exact h2, fun w2 y hM2 ok2 x2 ry => ?_⟩
  exact f w2 _ hM2 ok2 (x1.trans x2) (.cons (rx.mono x2) ry)
def tupE (a : AM) : EM := fun e M => thn1 (a e M) fun ds M1 => if ds.length ≤ sizeLine then some (.tup ds, M1) else none
def lstE (a : AM) : EM := fun e M => thn1 (a e M) fun ds M1 => if ds.length ≤ sizeLine then some (.lst ds, M1) else none
/-- .. one that will be changed -/
def lstC (a : AM) : EM := fun e M => thn1 (a e M) fun ds M1 => if ds.length ≤ sizeLine then some (.ref M1.length, M1 ++ [some (.lst ds)]) else none
theorem put_tup {w : Ws} {p : Addr} {xs : List V} {ds : List Dt} (ok : Ok K W w) (hp : w.H p = none) (r : Dvs K W w xs ds) : Dv K W (w.put p (.tup xs)) (.ref p) (.tup ds) :=
  .tup (SqT.of upd_same) (r.mono (Ext.put ok hp))
theorem put_lst {w : Ws} {p : Addr} {xs : List V} {ds : List Dt} (ok : Ok K W w) (hp : w.H p = none) (r : Dvs K W w xs ds) : Dv K W (w.put p (.lst xs)) (.ref p) (.lst ds) :=
  .lst upd_same (ok.fz_new hp) (r.mono (Ext.put ok hp))
theorem cell_lst {w : Ws} {p : Addr} {xs : List V} {ds : List Dt} (ok : Ok K W w) (hp : w.H p = none) (r : Dvs K W w xs ds) : Ok K W (w.cell p (.lst xs) (.lst ds)) :=
  ok.cell hp ⟨xs, upd_same, r.mono (Ext.cell ok hp)⟩
theorem cell_ref {w : Ws} {p : Addr} {o : HO} {c : Dt} (ok : Ok K W w) : Dv K W (w.cell p o c) (.ref p) (.ref w.M.length) := by
  refine .ref ?_
  show (w.ρ ++ [p])[w.M.length]? = some p
  rw [← ok.len]
  simp
theorem fin_tup {w : Ws} {xs : List V} {ds : List Dt} {Q : VK} (ok : Ok K W w) (r : Dvs K W w xs ds) (f : Fin1 K W w (.tup ds) w.M Q) : ∀ p, w.H p = none → Q (.ref p) (upd w.H p (.tup xs)) := fun p hp =>
  f (w.put p (.tup xs)) _ rfl (ok.put hp) (Ext.put ok hp) (put_tup ok hp r)
theorem fin_lst {w : Ws} {xs : List V} {ds : List Dt} {Q : VK} (ok : Ok K W w) (r : Dvs K W w xs ds) (f : Fin1 K W w (.lst ds) w.M Q) : ∀ p, w.H p = none → Q (.ref p) (upd w.H p (.lst xs)) := fun p hp =>
  f (w.put p (.lst xs)) _ rfl (ok.put hp) (Ext.put ok hp) (put_lst ok hp r)
theorem fin_cell {w : Ws} {xs : List V} {ds : List Dt} {Q : VK} (ok : Ok K W w) (r : Dvs K W w xs ds) (f : Fin1 K W w (.ref w.M.length) (w.M ++ [some (.lst ds)]) Q) : ∀ p, w.H p = none → Q (.ref p) (upd w.H p (.lst xs)) := fun p hp =>
  f (w.cell p (.lst xs) (.lst ds)) _ rfl (cell_lst ok hp r) (Ext.cell ok hp) (cell_ref ok)
theorem re_tup {es : List Expr} {x1} {pos : Pos} {m : AM} (h : RA X es m) : RE X (.Tuple es x1 pos) (tupE m) := by
  refine pe_weak (pe_tup h) fun σ H Q q => ?_
  obtain ⟨w, sl, d, M', rfl, ok, er, hm, f⟩ := q
  obtain ⟨ds, M1, h1, hm⟩ := thn1_eq hm
  split at hm
  · rename_i hl
    cases hm
    refine ⟨w, sl, ds, M', rfl, ok, er, h1, fun w1 xs hM1 ok1 x1 r => ⟨by rw [r.length]; exact hl, fin_tup ok1 r ?_⟩⟩
    rw [hM1]; exact f.after x1
  · cases hm
theorem re_lst {es : List Expr} {pos : Pos} {m : AM} (h : RA X es m) : RE X (.List es pos) (lstE m) := by
  refine pe_weak (pe_lst h) fun σ H Q q => ?_
  obtain ⟨w, sl, d, M', rfl, ok, er, hm, f⟩ := q
  obtain ⟨ds, M1, h1, hm⟩ := thn1_eq hm
  split at hm
  · rename_i hl
    cases hm
    refine ⟨w, sl, ds, M', rfl, ok, er, h1, fun w1 xs hM1 ok1 x1 r => ⟨by rw [r.length]; exact hl, fin_lst ok1 r ?_⟩⟩
    rw [hM1]; exact f.after x1
  · cases hm
theorem re_lstC {es : List Expr} {pos : Pos} {m : AM} (h : RA X es m) : RE X (.List es pos) (lstC m) := by
  refine pe_weak (pe_lst h) fun σ H Q q => ?_
  obtain ⟨w, sl, d, M', rfl, ok, er, hm, f⟩ := q
  obtain ⟨ds, M1, h1, hm⟩ := thn1_eq hm
  split at hm
  · rename_i hl
    simp only [Option.some.injEq, Prod.mk.injEq] at hm
    obtain ⟨rfl, rfl⟩ := hm
    refine ⟨w, sl, ds, M1, rfl, ok, er, h1, fun w1 xs hM1 ok1 x1 r => ⟨by rw [r.length]; exact hl, fin_cell ok1 r ?_⟩⟩
    rw [hM1]; exact f.after x1
  · cases hm
/-- a list is given up as a cell: it is data from now on -/
def frzD (M : Mem) : Dt → Option (Dt × Mem)
  | .ref i => match M[i]? with
    | some (some c) => some (c, M.set i none)
    | _ => none
  | _ => none
def frzE (m : EM) : EM := fun e M => thn1 (m e M) fun d M1 => frzD M1 d
theorem re_frz {e : Expr} {m : EM} (h : RE X e m) : RE X e (frzE m) := by
  refine pe_weak h fun σ H Q q => ?_
  obtain ⟨w, sl, d, M', rfl, ok, er, hm, f⟩ := q
  obtain ⟨d1, M1, h1, hm⟩ := thn1_eq hm
  refine ⟨w, sl, d1, M1, rfl, ok, er, h1, fun w1 v hM1 ok1 x1 r => ?_⟩
  cases r with
  | ref hr =>
    simp only [frzD] at hm
    split at hm
    · rename_i c hc
      cases hm
      refine f (w1.drop _) _ ?_ ok1.drop (x1.trans Ext.drop) (CellAt.freeze ok1 hr (by rw [hM1]; exact hc))
      show w1.M.set _ none = M1.set _ none
      rw [hM1]
    · cases hm
  | _ => simp [frzD] at hm

/-! ### statements -/
def nxS : SM := fun e M => some (.nx, e, M)
def seqS (a b : SM) : SM := fun e M => match a e M with
  | some (.nx, e1, M1) => b e1 M1
  | o => o
theorem rss_nil : RSs X [] nxS := by
  refine pss_weak pss_nil fun D σ H q => ?_
  obtain ⟨w, sl, fl, sl', M', rfl, ok, er, hm, f⟩ := q
  cases hm
  exact f w rfl ok (Ext.refl w) σ er
theorem seqS_ok {D : Ends} {ma mb : SM} {u : TS} (hu : ∀ D σ H, tS K W mb D σ H → u D σ H) {σ : L2.St} {H : Hp} (q : tS K W (seqS ma mb) D σ H) : tS K W ma { D with nx := u D } σ H := by
  obtain ⟨w, sl, fl, sl', M', rfl, ok, er, hm, f⟩ := q
  unfold seqS at hm
  split at hm
  · rename_i e1 M1 h1
    refine ⟨w, sl, .nx, e1, M1, rfl, ok, er, h1, fun w1 hM1 ok1 x1 σ1 er1 => ?_⟩
    exact hu _ _ _ ⟨w1, e1, fl, sl', M', rfl, ok1, er1, by rw [hM1]; exact hm, fun w2 hM2 ok2 x2 => f w2 hM2 ok2 (x1.trans x2)⟩
  · rename_i h1
    refine ⟨w, sl, fl, sl', M', rfl, ok, er, hm, fun w1 hM1 ok1 x1 => ?_⟩
    have q := f w1 hM1 ok1 x1
    cases fl with
    | nx => exact absurd hm (h1 _ _)
    | _ => exact q
theorem rss_cons {st : Stmt} {rest : List Stmt} {ma mb : SM} (h1 : RS X st ma) (h2 : RSs X rest mb) : RSs X (st :: rest) (seqS ma mb) :=
  pss_weak (pss_cons h1 h2) fun D σ H q => seqS_ok (fun _ _ _ z => z) q
theorem rss_one {st : Stmt} {m : SM} (h1 : RS X st m) : RSs X [st] m := pss_one h1
def bkS : SM := fun e M => some (.bk, e, M)
def ctS : SM := fun e M => some (.ct, e, M)
theorem rs_pass {pos : Pos} : RS X (.Pass pos) nxS := by
  refine ps_weak ps_pass fun D σ H q => ?_
  obtain ⟨w, sl, fl, sl', M', rfl, ok, er, hm, f⟩ := q
  cases hm
  exact f w rfl ok (Ext.refl w) σ er
theorem rs_break {pos : Pos} : RS X (.Break pos) bkS := by
  refine ps_weak ps_break fun D σ H q => ?_
  obtain ⟨w, sl, fl, sl', M', rfl, ok, er, hm, f⟩ := q
  cases hm
  exact f w rfl ok (Ext.refl w) σ er
theorem rs_continue {pos : Pos} : RS X (.Continue pos) ctS := by
  refine ps_weak ps_continue fun D σ H q => ?_
  obtain ⟨w, sl, fl, sl', M', rfl, ok, er, hm, f⟩ := q
  cases hm
  exact f w rfl ok (Ext.refl w) σ er
def exS (m : EM) : SM := fun e M => thn1 (m e M) fun _ M1 => some (.nx, e, M1)
theorem rs_expr {e : Expr} {pos : Pos} {m : EM} (h : RE X e m) (hs : swapsWith e none pos.line X.env = pure false := by rfl) : RS X (.Expr e pos) (exS m) := by
  refine ps_weak (ps_expr h hs) fun D σ H q => ?_
  obtain ⟨w, sl, fl, sl', M', rfl, ok, er, hm, f⟩ := q
  obtain ⟨d, M1, h1, hm⟩ := thn1_eq hm
  cases hm
  exact ⟨w, sl, d, M', rfl, ok, er, h1, fun w1 v hM1 ok1 x1 r => f w1 hM1 ok1 x1 σ (er.mono x1)⟩
def rtS (m : EM) : SM := fun e M => thn1 (m e M) fun d M1 => some (.rt d, e, M1)
theorem rs_ret {e : Expr} {pos : Pos} {m : EM} (h : RE X e m) : RS X (.Return (some e) pos) (rtS m) := by
  refine ps_weak (ps_ret h) fun D σ H q => ?_
  obtain ⟨w, sl, fl, sl', M', rfl, ok, er, hm, f⟩ := q
  obtain ⟨d, M1, h1, hm⟩ := thn1_eq hm
  cases hm
  exact ⟨w, sl, d, M', rfl, ok, er, h1, fun w1 v hM1 ok1 x1 r => f w1 hM1 ok1 x1 v r⟩
theorem rs_retN {pos : Pos} : RS X (.Return none pos) (rtS (cE .non)) := by
  refine ps_weak ps_retN fun D σ H q => ?_
  obtain ⟨w, sl, fl, sl', M', rfl, ok, er, hm, f⟩ := q
  cases hm
  exact f w rfl ok (Ext.refl w) _ .non
def ifS (t : TM) (a b : SM) : SM := fun e M => thn1 (t e M) fun c M1 => if c = true then a e M1 else b e M1
theorem rs_if {c : Expr} {a b : List Stmt} {pos : Pos} {mc : TM} {ma mb : SM} (hc : RT X c mc) (ha : RSs X a ma) (hb : RSs X b mb) : RS X (.If c a b pos) (ifS mc ma mb) := by
  refine ps_weak (ps_if hc ha hb) fun D σ H q => ?_
  obtain ⟨w, sl, fl, sl', M', rfl, ok, er, hm, f⟩ := q
  obtain ⟨c, M1, h1, hm⟩ := thn1_eq hm
  refine ⟨w, sl, c, M1, rfl, ok, er, h1, fun w1 hM1 ok1 x1 => ?_⟩
  cases c with
  | true => exact ⟨w1, sl, fl, sl', M', rfl, ok1, er.mono x1, by rw [hM1]; exact hm, fun w2 h2 ok2 x2 => f w2 h2 ok2 (x1.trans x2)⟩
  | false => exact ⟨w1, sl, fl, sl', M', rfl, ok1, er.mono x1, by rw [hM1]; exact hm, fun w2 h2 ok2 x2 => f w2 h2 ok2 (x1.trans x2)⟩

/-! ### targets -/
abbrev GM := Dt → Sl → Mem → Option (Sl × Mem)
abbrev GsM := List Dt → Sl → Mem → Option (Sl × Mem)
def tG (K : PySem.W.Frag) (W : World) (g : GM) : TG := fun v σ H Q => ∃ w d e e' M', w.H = H ∧ Ok K W w ∧ Dv K W w v d ∧ EnvR K W w σ e ∧ g d e w.M = some (e', M') ∧
  ∀ w', w'.M = M' → Ok K W w' → Ext w w' → ∀ σ', EnvR K W w' σ' e' → Q σ' w'.H
def tGs (K : PySem.W.Frag) (W : World) (g : GsM) : TGs := fun vs σ H Q => ∃ w ds e e' M', w.H = H ∧ Ok K W w ∧ Dvs K W w vs ds ∧ EnvR K W w σ e ∧ g ds e w.M = some (e', M') ∧
  ∀ w', w'.M = M' → Ok K W w' → Ext w w' → ∀ σ', EnvR K W w' σ' e' → Q σ' w'.H
abbrev RG (X : Cx) (t : Expr) (g : GM) : Prop := PG X t (tG X.K X.w g)
abbrev RGs (X : Cx) (ts : List Expr) (g : GsM) : Prop := PGs X ts (tGs X.K X.w g)
theorem pg_weak {e : Expr} {t t' : TG} (h : PG X e t) (k : ∀ v σ H Q, t' v σ H Q → t v σ H Q) : PG X e t' := ⟨fun pins s σ H v u Q I r q => h.run pins s σ H v u Q I r (k v σ H Q q)⟩
theorem pgs_weak {es : List Expr} {t t' : TGs} (h : PGs X es t) (k : ∀ v σ H Q, t' v σ H Q → t v σ H Q) : PGs X es t' := ⟨fun pins s σ H v u Q I r q => h.run pins s σ H v u Q I r (k v σ H Q q)⟩
def nameG (i : Nat) : GM := fun d e M => some (e.set i (some d), M)
theorem rg_name {i : Nat} {x : Str} {pos : Pos} (hN : X.N.Nodup) (hi : X.N[i]? = some x := by rfl) (hx : Loc X.env.scope x := by first | exact Or.inl rfl | exact Or.inr rfl)
    (hf : X.fn x = true ∨ X.env.scope.names.lookup x = some .local := by first | exact .inl rfl | exact .inr rfl) : RG X (.Name x pos) (nameG i) := by
  refine pg_weak (pg_name hN hi hx hf) fun v σ H Q q => ?_
  obtain ⟨w, d, e, e', M', rfl, ok, r, er, hm, f⟩ := q
  cases hm
  exact f w rfl ok (Ext.refl w) _ (er.set r i)
def nilG : GsM := fun ds e M => match ds with
  | [] => some (e, M)
  | _ :: _ => none
def consG (g : GM) (r : GsM) : GsM := fun ds e M => match ds with
  | [] => none
  | d :: ds => match g d e M with
    | some (e1, M1) => r ds e1 M1
    | none => none
theorem rgs_nil : RGs X [] nilG := by
  refine pgs_weak pgs_nil fun vs σ H Q q => ?_
  obtain ⟨w, ds, e, e', M', rfl, ok, r, er, hm, f⟩ := q
  cases r with
  | nil =>
    cases hm
    exact ⟨rfl, f w rfl ok (Ext.refl w) _ er⟩
  | cons _ _ => cases hm
theorem rgs_cons {t : Expr} {ts : List Expr} {g : GM} {gr : GsM} (h1 : RG X t g) (h2 : RGs X ts gr) (hs : (assignEach (t :: ts) X.env).map (·.2) = assign t X.env :: (assignEach ts X.env).map (·.2) := by rfl) : RGs X (t :: ts) (consG g gr) := by
  refine pgs_weak (pgs_cons h1 h2 hs) fun vs σ H Q q => ?_
  obtain ⟨w, ds, e, e', M', rfl, ok, r, er, hm, f⟩ := q
  cases r with
  | nil => cases hm
  | @cons v vs d ds r1 r2 =>
    simp only [consG] at hm
    split at hm
    · rename_i e1 M1 hg
      refine ⟨v, vs, rfl, w, d, e, e1, M1, rfl, ok, r1, er, hg, fun w1 hM1 ok1 x1 σ1 er1 => ?_⟩
      exact ⟨w1, ds, e1, e', M', rfl, ok1, r2.mono x1, er1, by rw [hM1]; exact hm, fun w2 hM2 ok2 x2 => f w2 hM2 ok2 (x1.trans x2)⟩
    · cases hm
def tupG (n : Nat) (g : GsM) : GM := fun d e M => match d with
  | .tup ds => if ds.length = n then g ds e M else none
  | _ => none
theorem rg_tup {es : List Expr} {k n : Nat} {pos : Pos} {g : GsM} (hc : X.calm = true) (h : RGs X es g) (hn : (assignEach es X.env).length = n := by rfl) (hst : (assignEach es X.env).findIdx? (·.1) = none := by rfl) : RG X (.Tuple es k pos) (tupG n g) := by
  refine pg_weak (pg_tup hc h hn hst) fun v σ H Q q => ?_
  obtain ⟨w, d, e, e', M', rfl, ok, r, er, hm, f⟩ := q
  cases r with
  | @tup a xs ds h1 h2 =>
    simp only [tupG] at hm
    split at hm
    · rename_i hl
      exact ⟨a, xs, rfl, h1, by rw [h2.length]; exact hl, w, ds, e, e', M', rfl, ok, h2, er, hm, f⟩
    · cases hm
  | _ => simp [tupG] at hm
def asgS (m : EM) (g : GM) : SM := fun e M => thn1 (m e M) fun d M1 => match g d e M1 with
  | some (e1, M2) => some (.nx, e1, M2)
  | none => none
theorem asgS_ok {m : EM} {g : GM} {D : Ends} {σ : L2.St} {H : Hp} (q : tS K W (asgS m g) D σ H) : tAsg (tE K W m) (tG K W g) D σ H := by
  obtain ⟨w, sl, fl, sl', M', rfl, ok, er, hm, f⟩ := q
  obtain ⟨d, M1, h1, hm⟩ := thn1_eq hm
  split at hm
  · rename_i e1 M2 hg
    cases hm
    refine ⟨w, sl, d, M1, rfl, ok, er, h1, fun w1 v hM1 ok1 x1 r => ?_⟩
    exact ⟨w1, d, sl, sl', M', rfl, ok1, r, er.mono x1, by rw [hM1]; exact hg, fun w2 hM2 ok2 x2 => f w2 hM2 ok2 (x1.trans x2)⟩
  · cases hm
theorem rs_asg {t e : Expr} {pos : Pos} {m : EM} {g : GM} (he : RE X e m) (hg : RG X t g) (hs : swapsWithSole [t] e pos.line X.env = pure false := by rfl) (hw : swappedStores [t] e X.env = pure none := by rfl)
    (h1 : (assignEach [t] X.env).map (·.2) = [assign t X.env] := by rfl) : RS X (.Assign [t] e pos) (asgS m g) := ps_weak (ps_asg he hg hs hw h1) fun D σ H q => asgS_ok q
def setS (i : Nat) (m : EM) : SM := fun e M => thn1 (m e M) fun d M1 => some (.nx, e.set i (some d), M1)
theorem rs_set {i : Nat} {x : Str} {e : Expr} {m : EM} {pos pos' : Pos} (hN : X.N.Nodup) (he : RE X e m) (hi : X.N[i]? = some x := by rfl) (hx : Loc X.env.scope x := by first | exact Or.inl rfl | exact Or.inr rfl)
    (hs : swapsWith e (some (.Name x pos')) pos.line X.env = pure false := by rfl) (hf : X.fn x = true ∨ X.env.scope.names.lookup x = some .local := by first | exact .inl rfl | exact .inr rfl) :
    RS X (.Assign [.Name x pos'] e pos) (setS i m) := by
  refine ps_weak (ps_set hN hi hx he hs hf) fun D σ H q => ?_
  obtain ⟨w, sl, fl, sl', M', rfl, ok, er, hm, f⟩ := q
  obtain ⟨d, M1, h1, hm⟩ := thn1_eq hm
  cases hm
  exact ⟨w, sl, d, M', rfl, ok, er, h1, fun w1 v hM1 ok1 x1 r => f w1 hM1 ok1 x1 _ ((er.mono x1).set r i)⟩
end

/-! ### defs -/
def body (n : Nat) (m : SM) : FM := fun ds M => match m (ds.map some ++ List.replicate (n - ds.length) none) M with
  | some (.rt d, _, M') => some (d, M')
  | some (.nx, _, M') => some (.non, M')
  | _ => none
/-- a call's end: the cells that were made within are given up -/
noncomputable def cutF (F : FM) : FM := fun ds M => match F ds M with
  | none => none
  | some (d, M') => open Classical in if Cl M.length d ∧ (∀ (i : Nat) (c : Dt), i < M.length → M'[i]? = some (some c) → M[i]? = some (some c) ∨ Cl M.length c) then some (d, M'.take M.length) else none
def spF (K : PySem.W.Frag) (W : World) (n : Nat) (F : FM) : Sp := fun vs H Q _ => ∃ w ds d M', w.H = H ∧ Ok K W w ∧ Dvs K W w vs ds ∧ ds.length = n ∧ F ds w.M = some (d, M') ∧ Fin1 K W w d M' Q
theorem spF_cut {K : PySem.W.Frag} {W : World} {n : Nat} {F : FM} {vs : List V} {H : Hp} {Q : VK} {E : XK} (h : spF K W n (cutF F) vs H Q E) : spF K W n F vs H Q E := by
  obtain ⟨w, ds, d, M', rfl, ok, r, hl, hm, f⟩ := h
  unfold cutF at hm
  split at hm
  · cases hm
  · rename_i d1 M1 h1
    split at hm
    · rename_i hc
      cases hm
      refine ⟨w, ds, d, M1, rfl, ok, r, hl, h1, fun w1 v hM1 ok1 x1 rv => ?_⟩
      refine f (w1.cut w.M.length) v ?_ (ok.cut ok1 x1 ?_) (Ext.cut ok x1) (rv.cut _ _ hc.1)
      · show w1.M.take _ = _
        rw [hM1]
      · intro i c hi e
        exact hc.2 i c hi (by rw [← hM1]; exact e)
    · cases hm
section
variable {P : Program} {W : World} {K : PySem.W.Frag} {mg : Str → Option Value} {base : Heap}
theorem envR_start {w : Ws} {N : List Str} {vs : List V} {ds : List Dt} (r : Dvs K W w vs ds) : EnvR K W w (L2.start N vs) (ds.map some ++ List.replicate (N.length - ds.length) none) := by
  refine ⟨by simp [L2.start, r.length], fun i d h => ?_⟩
  by_cases hi : i < ds.length
  · rw [List.getElem?_append_left (by simpa using hi), List.getElem?_map] at h
    cases e : ds[i]? with
    | none => rw [e] at h; cases h
    | some d' =>
      rw [e] at h
      cases h
      obtain ⟨v, h1, h2⟩ := r.get e
      refine ⟨v, ?_, h2⟩
      unfold L2.start
      rw [List.getElem?_append_left (by simpa [r.length] using hi), List.getElem?_map, h1]
      rfl
  · rw [List.getElem?_append_right (by simpa using hi)] at h
    rw [List.getElem?_replicate] at h
    split at h <;> cases h
theorem fn_ok {x qual : Str} {st : Stmt} {f : Addr} {fd : FuncData} {N ps : List Str} {k : Nat} {m : SM} (F : Fun K x qual st f fd) (S : FnScope N ps (defScope st))
    (hb : ∀ (cdv : Value) (A : Around) (outer : List Env) (s : Shared) (H : Hp) (E : XK), Room k (A.deeper (envOfC qual (defScope st) s.heap.objs.size f cdv)) →
      RSs (cxOf CX0 P W K mg base N qual (defScope st) f cdv A outer s H E).nox (defBody st) m) : FnOk P W K mg base CX0 (k + 1) f fd ps (spF K W ps.length (body N.length m)) := by
  refine F.ok S (fun vs H Q E h => ?_) (fun cdv A outer s H vs Q E hr h => ?_)
  · obtain ⟨w, ds, d, M', _, _, r, hl, _⟩ := h
    rw [r.length, hl]
  · refine ⟨_, hb cdv A outer s H E hr, ?_⟩
    obtain ⟨w, ds, d, M', rfl, ok, r, hl, hm, f⟩ := h
    unfold body at hm
    split at hm
    · rename_i d1 e1 M1 h1
      cases hm
      refine ⟨w, _, _, _, _, rfl, ok, envR_start r, h1, fun w1 hM1 ok1 x1 v rv => f w1 v hM1 ok1 x1 rv⟩
    · rename_i e1 M1 h1
      cases hm
      refine ⟨w, _, _, _, _, rfl, ok, envR_start r, h1, fun w1 hM1 ok1 x1 σ1 _ => f w1 _ hM1 ok1 x1 .non⟩
    · cases hm
theorem FnOk.cut {k : Nat} {f : Addr} {fd : FuncData} {ps : List Str} {n : Nat} {F : FM} (h : FnOk P W K mg base CX0 k f fd ps (spF K W n F)) : FnOk P W K mg base CX0 k f fd ps (spF K W n (cutF F)) :=
  h.imp fun _ _ _ _ => spF_cut
end

/-! ### calls -/
section
variable {X : Cx} {K : PySem.W.Frag} {W : World}
def callE (F : FM) (a : AM) : EM := fun e M => thn1 (a e M) fun ds M1 => F ds M1
theorem re_call {k n : Nat} {f : Addr} {fd : FuncData} {ps : List Str} {F : FM} {x : Str} {p pos : Pos} {e : Expr} {es : List Expr} {m : AM} (G : FnOk X.prog X.w X.K X.mg X.base CX0 k f fd ps (spF X.K X.w n F)) (hr : Room k X.A) (hg : Gl X x)
    (hm : X.mg x = some (.ref f)) (hk : PySem.W.keepIn X.K (.ref f) = true) (hb : Binds X.K fd ps []) (ha : RA X (e :: es) m) (hn : ∀ sl M ds M', m sl M = some (ds, M') → ds.length = n) (hdb : (x == ("__debug__" : Str)) = false := by decide)
    (he : starEach (e :: es) X.env = (false, eval e X.env) :: starEach es X.env := by rfl) (hpl : (backTo pos (starEach es X.env)).any (·.1) = false := by rfl) : RE X (.Call (.Name x p) (e :: es) [] pos) (callE F m) := by
  refine pe_weak (pe_call G hr hg hm hk hb .nil pass0 ha hdb he hpl) fun σ H Q q => ?_
  obtain ⟨w, sl, d, M', rfl, ok, er, hm, f⟩ := q
  obtain ⟨ds, M1, h1, hm⟩ := thn1_eq hm
  refine ⟨w, sl, ds, M1, rfl, ok, er, h1, fun w1 vs hM1 ok1 x1 r => ?_⟩
  refine ⟨w1, ds, d, M', rfl, ok1, ?_, hn _ _ _ _ h1, by rw [hM1]; exact hm, f.after x1⟩
  rw [List.append_nil]
  exact r
theorem re_call0 {k : Nat} {f : Addr} {fd : FuncData} {ps : List Str} {F : FM} {x : Str} {p pos : Pos} (G : FnOk X.prog X.w X.K X.mg X.base CX0 k f fd ps (spF X.K X.w 0 F)) (hr : Room k X.A) (hg : Gl X x)
    (hm : X.mg x = some (.ref f)) (hk : PySem.W.keepIn X.K (.ref f) = true) (hb : Binds X.K fd ps []) (hdb : (x == ("__debug__" : Str)) = false := by decide) : RE X (.Call (.Name x p) [] [] pos) (callE F nilA) := by
  refine pe_weak (pe_call0 G hr hg hm hk hb .nil pass0 hdb) fun σ H Q q => ?_
  obtain ⟨w, sl, d, M', rfl, ok, er, hm, f⟩ := q
  obtain ⟨ds, M1, h1, hm⟩ := thn1_eq hm
  cases h1
  exact ⟨w, [], d, M', rfl, ok, .nil, rfl, hm, f⟩
theorem nilA_len {sl : Sl} {M : Mem} {ds : List Dt} {M' : Mem} (h : nilA sl M = some (ds, M')) : ds.length = 0 := by cases h; rfl
theorem consA_len {a : EM} {r : AM} {n : Nat} (hr : ∀ sl M ds M', r sl M = some (ds, M') → ds.length = n) : ∀ sl M ds M', consA a r sl M = some (ds, M') → ds.length = n + 1 := fun sl M ds M' h => by
  obtain ⟨x, M1, h1, h⟩ := thn1_eq h
  obtain ⟨xs, M2, h2, h⟩ := thn1_eq h
  cases h
  exact congrArg (· + 1) (hr _ _ _ _ h2)
/-- a built-in by its name -/
def C1Ok (K : PySem.W.Frag) (W : World) (r : List V → Hp → VK → Prop) (g : FM) : Prop :=
  ∀ (w : Ws) (xs : List V) (ds : List Dt) (d : Dt) (M' : Mem) (Q : VK), Ok K W w → Dvs K W w xs ds → g ds w.M = some (d, M') → Fin1 K W w d M' Q → r xs w.H Q
theorem callB_ok {r : List V → Hp → VK → Prop} {g : FM} {m : AM} (hg : C1Ok K W r g) (σ : L2.St) (H : Hp) (Q : VK) (q : tE K W (callE g m) σ H Q) : tCB r (tA K W m) σ H Q := by
  obtain ⟨w, sl, d, M', rfl, ok, er, hm, f⟩ := q
  obtain ⟨ds, M1, h1, hm⟩ := thn1_eq hm
  exact ⟨w, sl, ds, M1, rfl, ok, er, h1, fun w1 vs hM1 ok1 x1 r => hg w1 vs ds d M' Q ok1 r (by rw [hM1]; exact hm) (f.after x1)⟩
theorem re_callB {x : Str} {id : String} {r : List V → Hp → VK → Prop} {g : FM} {m : AM} {p pos : Pos} {e : Expr} {es : List Expr} (hc : CallR X (.builtin id) r) (hgk : C1Ok X.K X.w r g) (hg : Gl X x) (hm : X.mg x = none) (hv : bootBuiltins x = some (.builtin id))
    (ha : RA X (e :: es) m) (hn : x ≠ "__name__" := by decide) (hdb : (x == ("__debug__" : Str)) = false := by decide) (he : starEach (e :: es) X.env = (false, eval e X.env) :: starEach es X.env := by rfl) (hpl : (backTo pos (starEach es X.env)).any (·.1) = false := by rfl) :
    RE X (.Call (.Name x p) (e :: es) [] pos) (callE g m) := pe_weak (pe_callB hc hg hm hv ha hn hdb he hpl) (callB_ok hgk)
theorem re_callTy {x : Str} {T : String} {r : List V → Hp → VK → Prop} {g : FM} {m : AM} {p pos : Pos} {e : Expr} {es : List Expr} (hc : CallR X (.type T) r) (hgk : C1Ok X.K X.w r g) (hg : Gl X x) (hm : X.mg x = none) (hv : bootBuiltins x = some (.type T))
    (ha : RA X (e :: es) m) (hn : x ≠ "__name__" := by decide) (hdb : (x == ("__debug__" : Str)) = false := by decide) (he : starEach (e :: es) X.env = (false, eval e X.env) :: starEach es X.env := by rfl) (hpl : (backTo pos (starEach es X.env)).any (·.1) = false := by rfl) :
    RE X (.Call (.Name x p) (e :: es) [] pos) (callE g m) := pe_weak (pe_callTy hc hg hm hv ha hn hdb he hpl) (callB_ok hgk)
end
end DL
/-! The data layer, part c: what is walked, for, while, list comprehensions. -/
namespace DL
open PySem PySem.Spec PyProof.Rows L2

/-- what is walked: the items; what must be so at each turn -/
structure Src where
  its : List Dt
  gd : Mem → Prop
abbrev IM := Sl → Mem → Option (Src × Mem)
def Yields (K : PySem.W.Frag) (W : World) (J : It) (src : Src) (w0 : Ws) : Prop := ∀ (i : Nat) (w : Ws), Ok K W w → Ext w0 w → src.gd w.M →
  (∀ d, src.its[i]? = some d → J.go i w.H ∧ ∀ x H', J.yld i w.H x H' → ∃ w', w'.H = H' ∧ w'.M = w.M ∧ Ok K W w' ∧ Ext w w' ∧ Dv K W w' x d) ∧ (src.its.length ≤ i → J.stop i w.H)
def tI (K : PySem.W.Frag) (W : World) (m : IM) : TI := fun σ H R => ∃ w e src M', w.H = H ∧ Ok K W w ∧ EnvR K W w σ e ∧ m e w.M = some (src, M') ∧
  ∀ w' J, w'.M = M' → Ok K W w' → Ext w w' → Yields K W J src w' → R J w'.H
abbrev RI (X : Cx) (tg iter : Expr) (m : IM) : Prop := PI X tg iter (tI X.K X.w m)
theorem pi_weak {X : Cx} {tg iter : Expr} {t t' : TI} (h : PI X tg iter t) (k : ∀ σ H R, t' σ H R → t σ H R) : PI X tg iter t' := ⟨fun pins s σ H R I q => h.run pins s σ H R I (k σ H R q)⟩
theorem pi_or {X : Cx} {tg iter : Expr} {t t' : TI} (h : PI X tg iter t) (h' : PI X tg iter t') : PI X tg iter (fun σ H R => t σ H R ∨ t' σ H R) :=
  ⟨fun pins s σ H R I q => q.elim (h.run pins s σ H R I) (h'.run pins s σ H R I)⟩

/-- the items of a list, a tuple, a text -/
def itemsOf (M : Mem) : Dt → Option Src
  | .tup ds => some ⟨ds, fun _ => True⟩
  | .lst ds => some ⟨ds, fun _ => True⟩
  | .lsk ds => some ⟨ds, fun _ => True⟩
  | .ref i => match M[i]? with
    | some (some (.lst ds)) => some ⟨ds, fun M => M[i]? = some (some (.lst ds))⟩
    | _ => none
  | .str x => some ⟨x.cps.toList.map fun c => .str ⟨#[c]⟩, fun _ => True⟩
  | _ => none
def seqI (m : EM) : IM := fun e M => thn1 (m e M) fun d M1 => pur (itemsOf M1 d) M1
section
variable {X : Cx} {K : PySem.W.Frag} {W : World}
theorem yields_list {w0 : Ws} {a : Addr} {ds : List Dt} {gd : Mem → Prop} (h : ∀ w, Ok K W w → Ext w0 w → gd w.M → ∃ xs, SqL K w.H a xs ∧ Dvs K W w xs ds) : Yields K W (Itl K a) ⟨ds, gd⟩ w0 := by
  intro i w ok x hg
  obtain ⟨xs, hs, r⟩ := h w ok x hg
  refine ⟨fun d hd => ?_, fun hl => ⟨xs, hs, by rw [r.length]; exact hl⟩⟩
  obtain ⟨v, hv, rv⟩ := r.get hd
  refine ⟨⟨xs, v, hs, hv⟩, fun y H' hy => ?_⟩
  obtain ⟨rfl, hy⟩ := hy
  have e := hy xs hs
  rw [hv] at e; cases e
  exact ⟨w, rfl, rfl, ok, Ext.refl w, rv⟩
theorem yields_tup {w0 : Ws} {a : Addr} {ds : List Dt} {gd : Mem → Prop} (h : ∀ w, Ok K W w → Ext w0 w → gd w.M → ∃ xs, SqT K w.H a xs ∧ Dvs K W w xs ds) : Yields K W (Itt K a) ⟨ds, gd⟩ w0 := by
  intro i w ok x hg
  obtain ⟨xs, hs, r⟩ := h w ok x hg
  refine ⟨fun d hd => ?_, fun hl => ⟨xs, hs, by rw [r.length]; exact hl⟩⟩
  obtain ⟨v, hv, rv⟩ := r.get hd
  refine ⟨⟨xs, v, hs, hv⟩, fun y H' hy => ?_⟩
  obtain ⟨rfl, hy⟩ := hy
  have e := hy xs hs
  rw [hv] at e; cases e
  exact ⟨w, rfl, rfl, ok, Ext.refl w, rv⟩
theorem yields_str {w0 : Ws} {y : Str} : Yields K W (Its y) ⟨y.cps.toList.map fun c => .str ⟨#[c]⟩, fun _ => True⟩ w0 := by
  intro i w ok x hg
  refine ⟨fun d hd => ?_, fun hl => ?_⟩
  · rw [List.getElem?_map] at hd
    cases e : y.cps.toList[i]? with
    | none => rw [e] at hd; cases hd
    | some c =>
      rw [e] at hd
      cases hd
      have hi : i < y.cps.toList.length := (List.getElem?_eq_some_iff.mp e).1
      refine ⟨by show i < y.cps.size; simpa using hi, fun v H' hv => ?_⟩
      obtain ⟨rfl, c', e', rfl⟩ := hv
      have : c' = c := by
        rw [Array.getElem?_toList] at e
        rw [e] at e'
        exact (Option.some.inj e').symm
      subst this
      exact ⟨w, rfl, rfl, ok, Ext.refl w, .str _⟩
  · show y.cps.size ≤ i
    simpa using hl
theorem yields_range {w0 : Ws} {lo : Int} {n : Nat} : Yields K W (Itr lo n) ⟨(List.range n).map fun i => .int (lo + (i : Nat)), fun _ => True⟩ w0 := by
  intro i w ok x hg
  refine ⟨fun d hd => ?_, fun hl => ?_⟩
  · rw [List.getElem?_map] at hd
    by_cases hi : i < n
    · rw [List.getElem?_range hi] at hd
      cases hd
      refine ⟨hi, fun v H' hv => ?_⟩
      obtain ⟨rfl, rfl⟩ := hv
      exact ⟨w, rfl, rfl, ok, Ext.refl w, .int _⟩
    · rw [List.getElem?_eq_none (by simpa using hi)] at hd
      cases hd
  · show n ≤ i
    simpa using hl
/-- a list, a tuple, a text, walked -/
theorem ri_seq {tg e : Expr} {m : EM} (h : RE X e m) : RI X tg e (seqI m) := by
  refine pi_weak (pi_or (pi_list (tg := tg) h) (pi_or (pi_tup (tg := tg) h) (pi_str h))) fun σ H R q => ?_
  obtain ⟨w, sl, src, M', rfl, ok, er, hm, f⟩ := q
  obtain ⟨d, M1, h1, hm⟩ := thn1_eq hm
  obtain ⟨rfl, hm'⟩ := pur_eq hm
  have go : ∀ {t : TE}, (∀ w1 v, w1.M = M' → Ok X.K X.w w1 → Ext w w1 → Dv X.K X.w w1 v d → True) → True := fun _ => trivial
  cases d with
  | tup ds =>
    simp only [itemsOf, Option.some.injEq] at hm'
    subst hm'
    refine .inr (.inl ⟨w, sl, _, _, rfl, ok, er, h1, fun w1 v hM1 ok1 x1 r => ?_⟩)
    cases r with
    | @tup a xs _ hs rs =>
      exact ⟨_, rfl, ⟨_, hs⟩, f w1 _ hM1 ok1 x1 (yields_tup fun w2 ok2 x2 _ => ⟨xs, x2.sqT hs, rs.mono x2⟩)⟩
  | lst ds =>
    simp only [itemsOf, Option.some.injEq] at hm'
    subst hm'
    refine .inl ⟨w, sl, _, _, rfl, ok, er, h1, fun w1 v hM1 ok1 x1 r => ?_⟩
    cases r with
    | @lst a xs _ hs n rs =>
      exact ⟨_, rfl, ⟨_, SqL.of hs⟩, f w1 _ hM1 ok1 x1 (yields_list fun w2 ok2 x2 _ => ⟨xs, SqL.of (x2.frz _ _ hs n).1, rs.mono x2⟩)⟩
  | lsk ds =>
    simp only [itemsOf, Option.some.injEq] at hm'
    subst hm'
    refine .inl ⟨w, sl, _, _, rfl, ok, er, h1, fun w1 v hM1 ok1 x1 r => ?_⟩
    cases r with
    | @lstK a xs _ hs rs =>
      exact ⟨_, rfl, ⟨_, hs.sq⟩, f w1 _ hM1 ok1 x1 (yields_list fun w2 ok2 x2 _ => ⟨xs, (x2.imL hs).sq, rs.mono x2⟩)⟩
  | ref i =>
    simp only [itemsOf] at hm'
    split at hm'
    · rename_i ds hc
      simp only [Option.some.injEq] at hm'
      subst hm'
      refine .inl ⟨w, sl, _, _, rfl, ok, er, h1, fun w1 v hM1 ok1 x1 r => ?_⟩
      cases r with
      | @ref _ a hr =>
        obtain ⟨xs, e, q⟩ := ok1.cells _ _ _ hr (by rw [hM1]; exact hc)
        refine ⟨_, rfl, ⟨_, SqL.of e⟩, f w1 _ hM1 ok1 x1 (yields_list fun w2 ok2 x2 hg => ?_)⟩
        obtain ⟨xs2, e2, q2⟩ := ok2.cells _ _ _ (x2.get hr) hg
        exact ⟨xs2, SqL.of e2, q2⟩
    · cases hm'
  | str y =>
    simp only [itemsOf, Option.some.injEq] at hm'
    subst hm'
    refine .inr (.inr ⟨w, sl, _, _, rfl, ok, er, h1, fun w1 v hM1 ok1 x1 r => ?_⟩)
    cases r
    exact ⟨_, rfl, f w1 _ hM1 ok1 x1 yields_str⟩
  | _ => simp [itemsOf] at hm'
/-- range(n), range(a, b) -/
def rngD : List Dt → Option Src
  | [.int j] => if -(2 ^ 62) ≤ j ∧ j < 2 ^ 62 then some ⟨(List.range j.toNat).map fun i => .int (0 + (i : Nat)), fun _ => True⟩ else none
  | [.int i, .int j] => if -(2 ^ 62) ≤ i ∧ i < 2 ^ 62 ∧ -(2 ^ 62) ≤ j ∧ j < 2 ^ 62 then some ⟨(List.range (j - i).toNat).map fun k => .int (i + (k : Nat)), fun _ => True⟩ else none
  | _ => none
def rngI (m : AM) : IM := fun e M => thn1 (m e M) fun ds M1 => pur (rngD ds) M1
theorem ri_range1 {tg a : Expr} {p pos : Pos} {m : AM} (hg : Gl X "range") (hm : X.mg "range" = none) (ha : RA X [a] m) (hn : ∀ sl M ds M', m sl M = some (ds, M') → ds.length = 1) (hs : starEach [a] X.env = [(false, eval a X.env)] := by rfl) : RI X tg (.Call (.Name "range" p) [a] [] pos) (rngI m) := by
  refine pi_weak (pi_range1 hg hm ha hs) fun σ H R q => ?_
  obtain ⟨w, sl, src, M', rfl, ok, er, hm, f⟩ := q
  obtain ⟨ds, M1, h1, hm⟩ := thn1_eq hm
  obtain ⟨rfl, hm'⟩ := pur_eq hm
  have hl := hn _ _ _ _ h1
  refine ⟨w, sl, _, _, rfl, ok, er, h1, fun w1 v hM1 ok1 x1 r => ?_⟩
  match ds, hl with
  | [d], _ =>
    cases d with
    | int j =>
      simp only [rngD] at hm'
      split at hm'
      · rename_i hj
        simp only [Option.some.injEq] at hm'
        subst hm'
        cases r with
        | cons r1 r2 =>
          cases r1
          cases r2
          exact ⟨j, rfl, hj.1, hj.2, f w1 _ hM1 ok1 x1 yields_range⟩
      · cases hm'
    | _ => simp [rngD] at hm'
theorem ri_range2 {tg a b : Expr} {p pos : Pos} {m : AM} (hg : Gl X "range") (hm : X.mg "range" = none) (ha : RA X [a, b] m) (hn : ∀ sl M ds M', m sl M = some (ds, M') → ds.length = 2) (hs : starEach [a, b] X.env = [(false, eval a X.env), (false, eval b X.env)] := by rfl)
    (hs2 : starEach [b] X.env = [(false, eval b X.env)] := by rfl) : RI X tg (.Call (.Name "range" p) [a, b] [] pos) (rngI m) := by
  refine pi_weak (pi_range2 hg hm ha hs hs2) fun σ H R q => ?_
  obtain ⟨w, sl, src, M', rfl, ok, er, hm, f⟩ := q
  obtain ⟨ds, M1, h1, hm⟩ := thn1_eq hm
  obtain ⟨rfl, hm'⟩ := pur_eq hm
  have hl := hn _ _ _ _ h1
  refine ⟨w, sl, _, _, rfl, ok, er, h1, fun w1 v hM1 ok1 x1 r => ?_⟩
  match ds, hl with
  | [d, d2], _ =>
    cases d with
    | int i =>
      cases d2 with
      | int j =>
        simp only [rngD] at hm'
        split at hm'
        · rename_i hj
          simp only [Option.some.injEq] at hm'
          subst hm'
          cases r with
          | cons r1 r2 =>
            cases r1
            cases r2 with
            | cons r3 r4 =>
              cases r3
              cases r4
              exact ⟨i, j, rfl, hj, f w1 _ hM1 ok1 x1 yields_range⟩
        · cases hm'
      | _ => simp [rngD] at hm'
    | _ => simp [rngD] at hm'

/-! ### for -/
noncomputable def loopS (gd : Mem → Prop) (g : GM) (b : SM) : List Dt → Sl → Mem → Option (Fl × Sl × Mem)
  | [], e, M => open Classical in if gd M then some (.nx, e, M) else none
  | d :: ds, e, M => open Classical in if gd M then (match g d e M with
    | none => none
    | some (e1, M1) => match b e1 M1 with
      | none => none
      | some (.nx, e2, M2) => loopS gd g b ds e2 M2
      | some (.ct, e2, M2) => loopS gd g b ds e2 M2
      | some (.bk, e2, M2) => some (.nx, e2, M2)
      | some (.rt r, e2, M2) => some (.rt r, e2, M2)) else none
noncomputable def forS (it : IM) (g : GM) (b : SM) : SM := fun e M => thn1 (it e M) fun src M1 => loopS src.gd g b src.its e M1
theorem rs_for {tg iter : Expr} {sts : List Stmt} {pos : Pos} {mi : IM} {g : GM} {mb : SM} (hp : PassesOwn (model X.prog X.w) X.A X.env X.xe) (hc : X.calm = true) (hi : RI X tg iter mi) (hg : RG X tg g) (hb : RSs X sts mb)
    (hs : ∀ x, foldedSetIterable iter X.env x = pure x := by intro _; rfl) : RS X (.For tg iter sts [] pos) (forS mi g mb) := by
  refine ps_weak (ps_for hp hc hi hg hb hs) fun D σ H q => ?_
  obtain ⟨w, sl, fl, sl', M', rfl, ok, er, hm, f⟩ := q
  obtain ⟨src, M1, h1, hm⟩ := thn1_eq hm
  refine ⟨w, sl, src, M1, rfl, ok, er, h1, fun w1 J hM1 ok1 x1 y => ?_⟩
  refine ⟨fun i m σ H => m = src.its.length - i ∧ i ≤ src.its.length ∧ ∃ w2 e2, w2.H = H ∧ Ok X.K X.w w2 ∧ Ext w1 w2 ∧ EnvR X.K X.w w2 σ e2 ∧ loopS src.gd g mb (src.its.drop i) e2 w2.M = some (fl, sl', M'),
    ⟨src.its.length, by simp, Nat.zero_le _, w1, sl, rfl, ok1, Ext.refl w1, er.mono x1, by rw [hM1]; exact hm⟩, ?_⟩
  rintro i m σ2 H2 ⟨rfl, hil, w2, e2, rfl, ok2, x2, er2, hl⟩
  by_cases hlt : i < src.its.length
  · rw [List.drop_eq_getElem_cons hlt] at hl
    unfold loopS at hl
    split at hl
    · rename_i hgd
      obtain ⟨y1, _⟩ := y i w2 ok2 x2 hgd
      obtain ⟨hgo, hy⟩ := y1 _ (List.getElem?_eq_getElem hlt)
      refine .inr ⟨hgo, fun σ' H' => i + 1 ≤ src.its.length ∧ ∃ w3 e3, w3.H = H' ∧ Ok X.K X.w w3 ∧ Ext w1 w3 ∧ EnvR X.K X.w w3 σ' e3 ∧ loopS src.gd g mb (src.its.drop (i + 1)) e3 w3.M = some (fl, sl', M'),
        fun σ' H' ⟨h, r⟩ => ⟨src.its.length - (i + 1), by omega, rfl, h, r⟩, fun v H' hv => ?_⟩
      obtain ⟨w3, rfl, hM3, ok3, x3, rv⟩ := hy v H' hv
      split at hl
      · cases hl
      · rename_i e4 M4 hg4
        refine ⟨w3, _, e2, e4, M4, rfl, ok3, rv, er2.mono x3, by rw [hM3]; exact hg4, fun w5 hM5 ok5 x5 σ5 er5 => ?_⟩
        have x15 := (x2.trans x3).trans x5
        split at hl
        · cases hl
        · rename_i e6 M6 hb6
          refine ⟨w5, e4, .nx, e6, M6, rfl, ok5, er5, by rw [hM5]; exact hb6, fun w7 hM7 ok7 x7 σ7 er7 => ?_⟩
          exact ⟨hlt, w7, e6, rfl, ok7, x15.trans x7, er7, by rw [hM7]; exact hl⟩
        · rename_i e6 M6 hb6
          refine ⟨w5, e4, .ct, e6, M6, rfl, ok5, er5, by rw [hM5]; exact hb6, fun w7 hM7 ok7 x7 σ7 er7 => ?_⟩
          exact ⟨hlt, w7, e6, rfl, ok7, x15.trans x7, er7, by rw [hM7]; exact hl⟩
        · rename_i e6 M6 hb6
          cases hl
          refine ⟨w5, e4, .bk, sl', M', rfl, ok5, er5, by rw [hM5]; exact hb6, fun w7 hM7 ok7 x7 σ7 er7 => ?_⟩
          exact f w7 hM7 ok7 (x1.trans (x15.trans x7)) σ7 er7
        · rename_i r e6 M6 hb6
          cases hl
          refine ⟨w5, e4, .rt r, sl', M', rfl, ok5, er5, by rw [hM5]; exact hb6, fun w7 hM7 ok7 x7 v rv => ?_⟩
          exact f w7 hM7 ok7 (x1.trans (x15.trans x7)) v rv
    · cases hl
  · have e : i = src.its.length := by omega
    rw [List.drop_eq_nil_of_le (by omega)] at hl
    unfold loopS at hl
    split at hl
    · rename_i hgd
      cases hl
      obtain ⟨_, y2⟩ := y i w2 ok2 x2 hgd
      exact .inl ⟨y2 (by omega), f w2 rfl ok2 (x1.trans x2) σ2 er2⟩
    · cases hl

/-! ### while -/
def whN (c : TM) (b : SM) : Nat → SM
  | 0 => fun _ _ => none
  | n + 1 => fun e M => thn1 (c e M) fun t M1 => if t = true then (match b e M1 with
    | none => none
    | some (.nx, e2, M2) => whN c b n e2 M2
    | some (.ct, e2, M2) => whN c b n e2 M2
    | some (.bk, e2, M2) => some (.nx, e2, M2)
    | some (.rt r, e2, M2) => some (.rt r, e2, M2)) else some (.nx, e, M1)
theorem whN_mono {c : TM} {b : SM} : ∀ {n k : Nat} {e : Sl} {M : Mem} {r : Fl × Sl × Mem}, whN c b n e M = some r → n ≤ k → whN c b k e M = some r
  | 0, _, _, _, _, h, _ => by cases h
  | n + 1, 0, _, _, _, _, h => absurd h (by omega)
  | n + 1, k + 1, e, M, r, h, hk => by
    unfold whN at h ⊢
    obtain ⟨t, M1, h1, h⟩ := thn1_eq h
    rw [h1, thn1_some]
    cases t with
    | false => exact h
    | true =>
      simp only [if_true] at h ⊢
      cases hb : b e M1 with
      | none => rw [hb] at h; cases h
      | some p =>
        obtain ⟨f, e2, M2⟩ := p
        rw [hb] at h
        cases f with
        | nx => exact whN_mono h (by omega)
        | ct => exact whN_mono h (by omega)
        | bk => exact h
        | rt d => exact h
open Classical in
noncomputable def whS (c : TM) (b : SM) : SM := fun e M => if h : ∃ n r, whN c b n e M = some r then whN c b h.choose e M else none
theorem whS_of {c : TM} {b : SM} {n : Nat} {e : Sl} {M : Mem} {r : Fl × Sl × Mem} (h : whN c b n e M = some r) : whS c b e M = some r := by
  have hx : ∃ n r, whN c b n e M = some r := ⟨n, r, h⟩
  unfold whS
  rw [dif_pos hx]
  obtain ⟨r', h'⟩ := hx.choose_spec
  rw [h']
  have a := whN_mono h (Nat.le_max_left n hx.choose)
  have b := whN_mono h' (Nat.le_max_right n hx.choose)
  rw [a] at b
  exact b.symm
theorem whS_n {c : TM} {b : SM} {e : Sl} {M : Mem} {r : Fl × Sl × Mem} (h : whS c b e M = some r) : ∃ n, whN c b n e M = some r := by
  unfold whS at h
  split at h
  · exact ⟨_, h⟩
  · cases h
theorem rs_while {c : Expr} {sts : List Stmt} {pos : Pos} {mc : TM} {mb : SM} (hp : PassesOwn (model X.prog X.w) X.A X.env X.xe) (hc : RT X c mc) (hb : RSs X sts mb) : RS X (.While c sts [] pos) (whS mc mb) := by
  refine ps_weak (ps_while hp hc hb) fun D σ H q => ?_
  obtain ⟨w, sl, fl, sl', M', rfl, ok, er, hm, f⟩ := q
  obtain ⟨n, hm⟩ := whS_n hm
  refine ⟨fun m σ H => ∃ w2 e2, w2.H = H ∧ Ok X.K X.w w2 ∧ Ext w w2 ∧ EnvR X.K X.w w2 σ e2 ∧ whN mc mb m e2 w2.M = some (fl, sl', M'), ⟨n, w, sl, rfl, ok, Ext.refl w, er, hm⟩, ?_⟩
  rintro m σ2 H2 ⟨w2, e2, rfl, ok2, x2, er2, hw⟩
  cases m with
  | zero => cases hw
  | succ m =>
    unfold whN at hw
    obtain ⟨t, M3, h3, hw⟩ := thn1_eq hw
    refine ⟨w2, e2, t, M3, rfl, ok2, er2, h3, fun w3 hM3 ok3 x3 => ?_⟩
    cases t with
    | false =>
      simp only [Bool.false_eq_true, if_false] at hw ⊢
      cases hw
      exact f w3 hM3 ok3 (x2.trans x3) σ2 (er2.mono x3)
    | true =>
      simp only [if_true] at hw ⊢
      refine ⟨fun σ' H' => ∃ w4 e4, w4.H = H' ∧ Ok X.K X.w w4 ∧ Ext w w4 ∧ EnvR X.K X.w w4 σ' e4 ∧ whN mc mb m e4 w4.M = some (fl, sl', M'), fun σ' H' h => ⟨m, Nat.lt_succ_self m, h⟩, ?_⟩
      have x13 := x2.trans x3
      split at hw
      · cases hw
      · rename_i e6 M6 hb6
        refine ⟨w3, e2, .nx, e6, M6, rfl, ok3, er2.mono x3, by rw [hM3]; exact hb6, fun w7 hM7 ok7 x7 σ7 er7 => ?_⟩
        exact ⟨w7, e6, rfl, ok7, x13.trans x7, er7, by rw [hM7]; exact hw⟩
      · rename_i e6 M6 hb6
        refine ⟨w3, e2, .ct, e6, M6, rfl, ok3, er2.mono x3, by rw [hM3]; exact hb6, fun w7 hM7 ok7 x7 σ7 er7 => ?_⟩
        exact ⟨w7, e6, rfl, ok7, x13.trans x7, er7, by rw [hM7]; exact hw⟩
      · rename_i e6 M6 hb6
        cases hw
        refine ⟨w3, e2, .bk, sl', M', rfl, ok3, er2.mono x3, by rw [hM3]; exact hb6, fun w7 hM7 ok7 x7 σ7 er7 => ?_⟩
        exact f w7 hM7 ok7 (x13.trans x7) σ7 er7
      · rename_i r e6 M6 hb6
        cases hw
        refine ⟨w3, e2, .rt r, sl', M', rfl, ok3, er2.mono x3, by rw [hM3]; exact hb6, fun w7 hM7 ok7 x7 v rv => ?_⟩
        exact f w7 hM7 ok7 (x13.trans x7) v rv

/-! ### list comprehensions -/
/-- a comprehension's target: a name, names -/
inductive Tgt where
  | one (i : Nat) | many (is : List Nat)
def Tgt.slots : Tgt → List Nat
  | .one i => [i]
  | .many is => is
def gNames : List Nat → TGs
  | [] => gNil
  | i :: is => gCons (gName i) (gNames is)
def Tgt.g (K : PySem.W.Frag) : Tgt → TG
  | .one i => gName i
  | .many is => gTup K is.length (gNames is)
def setAll : List Nat → List Dt → Sl → Sl
  | i :: is, d :: ds, e => setAll is ds (e.set i (some d))
  | _, _, e => e
def Tgt.m : Tgt → Dt → Sl → Option Sl
  | .one i, d, e => some (e.set i (some d))
  | .many is, .tup ds, e => if ds.length = is.length then some (setAll is ds e) else none
  | .many _, _, _ => none
def wipeS (e : Sl) : List Nat → Sl
  | [] => e
  | v :: vs => (wipeS e vs).set v none
theorem wipe_get (σ : L2.St) : ∀ (vs : List Nat) (j : Nat), (wipe σ vs)[j]? = if j ∈ vs then (if j < σ.length then some none else none) else σ[j]?
  | [], j => by simp [wipe]
  | v :: vs, j => by
    unfold wipe
    rw [List.getElem?_set, wipe_get σ vs j, wipe_length]
    by_cases h : v = j
    · subst h; simp
    · have h' : ¬ j = v := fun e => h e.symm
      simp [h, h']
theorem wipeS_get (σ : Sl) : ∀ (vs : List Nat) (j : Nat), (wipeS σ vs)[j]? = if j ∈ vs then (if j < σ.length then some none else none) else σ[j]? := by
  intro vs
  induction vs with
  | nil => intro j; simp [wipeS]
  | cons v vs ih =>
    intro j
    have hl : (wipeS σ vs).length = σ.length := by
      clear ih
      induction vs with
      | nil => rfl
      | cons u us ih => unfold wipeS; rw [List.length_set, ih]
    unfold wipeS
    rw [List.getElem?_set, ih j, hl]
    by_cases h : v = j
    · subst h; simp
    · have h' : ¬ j = v := fun e => h e.symm
      simp [h, h']
theorem wipe_set {σ : L2.St} {vs : List Nat} {i : Nat} {x : Option V} (hi : i ∈ vs) : wipe (σ.set i x) vs = wipe σ vs := by
  refine List.ext_getElem? fun j => ?_
  rw [wipe_get, wipe_get, List.length_set]
  by_cases h : j ∈ vs
  · rw [if_pos h, if_pos h]
  · rw [if_neg h, if_neg h]
    rw [List.getElem?_set_ne (fun e : i = j => h (by rw [← e]; exact hi))]
theorem EnvR.wipe {w : Ws} {σ : L2.St} {e : Sl} (r : EnvR K W w σ e) (vs : List Nat) : EnvR K W w (wipe σ vs) (wipeS e vs) := by
  refine ⟨?_, fun i d h => ?_⟩
  · have a := wipe_length σ vs
    have b : (wipeS e vs).length = e.length := by
      induction vs with
      | nil => rfl
      | cons u us ih => unfold wipeS; rw [List.length_set, ih (wipe_length σ us)]
    rw [a, b, r.len]
  · rw [wipeS_get] at h
    rw [wipe_get]
    split at h
    · split at h <;> cases h
    · rename_i hn
      rw [if_neg hn]
      exact r.get i d h
theorem gNames_ok {vs : List Nat} {H : Hp} : ∀ {is : List Nat} {xs : List V} {ds : List Dt} {w : Ws} {σ σ0 : L2.St} {e : Sl} {Q : L2.St → Hp → Prop}, (∀ i ∈ is, i ∈ vs) → w.H = H → Dvs K W w xs ds → ds.length = is.length → EnvR K W w σ e → L2.wipe σ vs = L2.wipe σ0 vs →
    (∀ σ2, EnvR K W w σ2 (setAll is ds e) → L2.wipe σ2 vs = L2.wipe σ0 vs → Q σ2 H) → gNames is xs σ H Q
  | [], _, _, w, σ, σ0, e, Q, _, _, r, hl, er, hw, k => by
    cases r with
    | nil => exact ⟨rfl, k σ er hw⟩
    | cons _ _ => cases hl
  | i :: is, _, _, w, σ, σ0, e, Q, hv, hH, r, hl, er, hw, k => by
    cases r with
    | nil => cases hl
    | @cons x xs d ds r1 r2 =>
      refine ⟨x, xs, rfl, ?_⟩
      show gNames is xs (σ.set i (some x)) H Q
      refine gNames_ok (fun j hj => hv j (List.mem_cons_of_mem _ hj)) hH r2 (by simpa using hl) (er.set r1 i) ?_ k
      rw [wipe_set (hv i List.mem_cons_self)]
      exact hw
theorem Tgt.ok {t : Tgt} {vs : List Nat} (hv : ∀ i ∈ t.slots, i ∈ vs) {w : Ws} {x : V} {d : Dt} {σ σ0 : L2.St} {e e' : Sl} {Q : L2.St → Hp → Prop} (r : Dv K W w x d) (er : EnvR K W w σ e) (hw : L2.wipe σ vs = L2.wipe σ0 vs) (hm : t.m d e = some e')
    (k : ∀ σ2, EnvR K W w σ2 e' → L2.wipe σ2 vs = L2.wipe σ0 vs → Q σ2 w.H) : t.g K x σ w.H Q := by
  cases t with
  | one i =>
    simp only [Tgt.m, Option.some.injEq] at hm
    subst hm
    refine k _ (er.set r i) ?_
    rw [wipe_set (hv i (by simp [Tgt.slots]))]
    exact hw
  | many is =>
    cases r with
    | @tup a xs ds hs rs =>
      simp only [Tgt.m] at hm
      split at hm
      · rename_i hl
        cases hm
        exact ⟨a, xs, rfl, hs, by rw [rs.length]; exact hl, gNames_ok hv rfl rs hl er hw k⟩
      · cases hm
    | _ => simp [Tgt.m] at hm
/-- several tests -/
def yesT : TM := fun _ M => some (true, M)
noncomputable def lcL (gd : Mem → Prop) (t : Tgt) (c : TM) (el : EM) (e0 : Sl) : List Dt → List Dt → Mem → Option (List Dt × Mem)
  | [], acc, M => open Classical in if gd M then some (acc, M) else none
  | d :: ds, acc, M => open Classical in if gd M then (match t.m d e0 with
    | none => none
    | some e1 => thn1 (c e1 M) fun b M2 => if b = true then thn1 (el e1 M2) fun y M3 => if acc.length < sizeLine then lcL gd t c el e0 ds (acc ++ [y]) M3 else none else lcL gd t c el e0 ds acc M2) else none
noncomputable def lcE (it : IM) (t : Tgt) (c : TM) (el : EM) (vs : List Nat) : EM := fun e M => thn1 (it e M) fun src M1 => thn1 (lcL src.gd t c el (wipeS e vs) src.its [] M1) fun ds M2 => some (.lst ds, M2)
/-- the world within a comprehension: the new list at D is hidden -/
def Ws.hide (w : Ws) (D : Addr) (o : HO) : Ws := { w with H := upd w.H D o, ex := D :: w.ex }
/-- .. behind it -/
def Ws.unh (w : Ws) (ex : List Addr) : Ws := { w with ex := ex }
def Ws.upd (w : Ws) (D : Addr) (o : HO) : Ws := { w with H := L2.upd w.H D o }
theorem Ext.hide {w : Ws} (ok : Ok K W w) {D : Addr} {o : HO} (hD : w.H D = none) : Ext w (w.hide D o) := by
  have e := Ext.put ok (o := o) hD
  refine ⟨⟨e.pre, e.imm, fun a u h n => ?_⟩, e.hid, fun a h => List.mem_cons_of_mem _ h⟩
  obtain ⟨h1, n1⟩ := e.frz a u h n
  refine ⟨h1, n.nl, ?_⟩
  show a ∉ D :: w.ex
  rw [List.mem_cons, not_or]
  exact ⟨ne_of_none h hD, n.nx⟩
theorem Ok.hide {w : Ws} (ok : Ok K W w) {D : Addr} {o : HO} (hD : w.H D = none) : Ok K W (w.hide D o) := by
  have q := ok.put (o := o) hD
  refine ⟨q.len, q.nd, q.has, fun a h => ?_, fun i a c h1 h2 => ?_⟩
  · rcases List.mem_cons.mp h with rfl | h
    · exact ⟨ok.fresh hD, o, upd_same⟩
    · exact q.exl a h
  · have z := ok.cells i a c h1 h2
    obtain ⟨u, e, _⟩ := z.mut
    refine z.mono (Ext.hide ok hD) ?_
    show L2.upd w.H D o a = w.H a
    rw [upd_ne (ne_of_none e hD)]
/-- the hidden list grows -/
theorem Ext0.upd {w : Ws} {D : Addr} {o : HO} {xs : List V} (h : D ∈ w.ex) (hD : w.H D = some (.lst xs)) : Ext0 w (w.upd D o) := by
  refine ⟨⟨[], by simp [Ws.upd]⟩, fun a u e n => ?_, fun a u e n => ⟨?_, n.nl, n.nx⟩⟩
  · have : a ≠ D := by
      rintro rfl
      rw [hD] at e; cases e
      exact n trivial
    show L2.upd w.H D o a = some u
    rw [upd_ne this]; exact e
  · have : a ≠ D := by
      rintro rfl
      exact n.nx h
    show L2.upd w.H D o a = some u
    rw [upd_ne this]; exact e
theorem Ok.upd {w : Ws} (ok : Ok K W w) {D : Addr} {o : HO} {xs : List V} (h : D ∈ w.ex) (hD : w.H D = some (.lst xs)) : Ok K W (w.upd D o) := by
  have all : ∀ b, (∃ u, w.H b = some u) → ∃ u, L2.upd w.H D o b = some u := fun b hb => by
    by_cases e : b = D
    · subst e; exact ⟨o, upd_same⟩
    · rw [upd_ne e]; exact hb
  refine ⟨ok.len, ok.nd, fun a ha => all a (ok.has a ha), fun a ha => ⟨(ok.exl a ha).1, all a (ok.exl a ha).2⟩, fun i a c h1 h2 => ?_⟩
  refine CellAt.mono0 (Ext0.upd h hD) ?_ (ok.cells i a c h1 h2)
  show L2.upd w.H D o a = w.H a
  refine upd_ne ?_
  rintro rfl
  exact (ok.exl a h).1 (List.mem_of_getElem? h1)
/-- from w1, ahead of the list at D: w2 within, D's list changed -/
theorem Ext.upd {w1 w2 : Ws} (ok1 : Ok K W w1) (x : Ext w1 w2) {D : Addr} {o : HO} (hD : w1.H D = none) : Ext w1 (w2.upd D o) := by
  refine ⟨⟨x.pre, fun a u e n => ?_, fun a u e n => ?_⟩, fun a h => ?_, x.exm⟩
  · show L2.upd w2.H D o a = some u
    rw [upd_ne (ne_of_none e hD)]
    exact x.imm a u e n
  · obtain ⟨h1, n1⟩ := x.frz a u e n
    refine ⟨?_, n1.nl, n1.nx⟩
    show L2.upd w2.H D o a = some u
    rw [upd_ne (ne_of_none e hD)]
    exact h1
  · show L2.upd w2.H D o a = w1.H a
    rw [upd_ne (ok1.exn hD h)]
    exact x.hid a h
theorem Ext.unh {w1 w2 : Ws} (x : Ext w1 w2) : Ext w1 (w2.unh w1.ex) := by
  refine ⟨⟨x.pre, x.imm, fun a u e n => ?_⟩, x.hid, fun a h => h⟩
  obtain ⟨h1, n1⟩ := x.frz a u e n
  exact ⟨h1, n1.nl, n.nx⟩
theorem Ext0.unh {w2 : Ws} {ex : List Addr} (h : ∀ a ∈ ex, a ∈ w2.ex) : Ext0 w2 (w2.unh ex) :=
  ⟨⟨[], by simp [Ws.unh]⟩, fun _ _ e _ => e, fun a u e n => ⟨e, n.nl, fun z => n.nx (h a z)⟩⟩
theorem Ok.unh {w2 : Ws} (ok : Ok K W w2) {ex : List Addr} (h : ∀ a ∈ ex, a ∈ w2.ex) : Ok K W (w2.unh ex) :=
  ⟨ok.len, ok.nd, ok.has, fun a ha => ok.exl a (h a ha), fun i a c h1 h2 => CellAt.mono0 (Ext0.unh h) rfl (ok.cells i a c h1 h2)⟩
abbrev RTs (X : Cx) (ifs : List Expr) (m : TM) : Prop := PTs X ifs (tT X.K X.w m)
theorem rts_nil : RTs X [] yesT := by
  refine ⟨fun pins s σ H Q I q => (pts_nil (X := X)).run pins s σ H Q I ?_⟩
  obtain ⟨w, sl, b, M', rfl, ok, er, hm, f⟩ := q
  cases hm
  exact f w rfl ok (Ext.refl w)
theorem rts_one {c : Expr} {m : TM} (h : RT X c m) : RTs X [c] m := pts_one h
theorem lc_read {mi : IM} {t : Tgt} {mc : TM} {me : EM} {vs : List Nat} (hv : ∀ i ∈ t.slots, i ∈ vs) {σ : L2.St} {H : Hp} {Q : VK} (q : tE K W (lcE mi t mc me vs) σ H Q) : tLc (tI K W mi) (t.g K) (tT K W mc) (tE K W me) vs σ H Q := by
  obtain ⟨w, sl, d, M', rfl, ok, er, hm, f⟩ := q
  obtain ⟨src, M1, h1, hm⟩ := thn1_eq hm
  obtain ⟨ds, M2, h2, hm⟩ := thn1_eq hm
  cases hm
  refine ⟨w, sl, src, M1, rfl, ok, er, h1, fun w1 J hM1 ok1 x1 y => ?_⟩
  intro D hD
  refine ⟨fun i m H => m = src.its.length - i ∧ i ≤ src.its.length ∧ ∃ w2 acc xs, w2.H = H ∧ Ok K W w2 ∧ D ∈ w2.ex ∧ Ext w1 w2 ∧ H D = some (.lst xs) ∧ Dvs K W w2 xs acc ∧ lcL src.gd t mc me (wipeS sl vs) (src.its.drop i) acc w2.M = some (ds, M'),
    ⟨src.its.length, by simp, Nat.zero_le _, w1.hide D (.lst []), [], [], rfl, ok1.hide hD, List.mem_cons_self, Ext.hide ok1 hD, upd_same, .nil, by show lcL src.gd t mc me (wipeS sl vs) src.its [] w1.M = _; rw [hM1]; exact h2⟩, ?_⟩
  rintro i m H2 ⟨rfl, hil, w2, acc, xs, rfl, ok2, hDx, x2, hDl, ra, hl⟩
  by_cases hlt : i < src.its.length
  · rw [List.drop_eq_getElem_cons hlt] at hl
    unfold lcL at hl
    split at hl
    · rename_i hgd
      obtain ⟨y1, _⟩ := y i w2 ok2 x2 hgd
      obtain ⟨hgo, hy⟩ := y1 _ (List.getElem?_eq_getElem hlt)
      refine .inr ⟨hgo, fun H' => i + 1 ≤ src.its.length ∧ ∃ w3 acc xs, w3.H = H' ∧ Ok K W w3 ∧ D ∈ w3.ex ∧ Ext w1 w3 ∧ H' D = some (.lst xs) ∧ Dvs K W w3 xs acc ∧ lcL src.gd t mc me (wipeS sl vs) (src.its.drop (i + 1)) acc w3.M = some (ds, M'),
        fun H' ⟨h, r⟩ => ⟨src.its.length - (i + 1), by omega, rfl, h, r⟩, fun v H' hv' => ?_⟩
      obtain ⟨w3, rfl, hM3, ok3, x3, rv⟩ := hy v H' hv'
      split at hl
      · cases hl
      · rename_i e4 hg4
        have er3 : EnvR K W w3 (L2.wipe σ vs) (wipeS sl vs) := (er.mono ((x1.trans x2).trans x3)).wipe vs
        refine Tgt.ok (σ0 := σ) hv rv er3 ?_ hg4 fun σ4 er4 hw4 => ⟨hw4, ?_⟩
        · refine List.ext_getElem? fun j => ?_
          rw [wipe_get, wipe_get, wipe_length]
          split
          · rfl
          · rfl
        · obtain ⟨b, M5, hc5, hl⟩ := thn1_eq hl
          refine ⟨w3, e4, b, M5, rfl, ok3, er4, by rw [hM3]; exact hc5, fun w5 hM5 ok5 x5 => ?_⟩
          have x15 := (x2.trans x3).trans x5
          have hD5 : w5.H D = some (.lst xs) := by
            rw [x5.hid D (x3.exm D hDx), x3.hid D hDx]
            exact hDl
          have hDx5 : D ∈ w5.ex := x5.exm D (x3.exm D hDx)
          cases b with
          | false =>
            simp only [Bool.false_eq_true, if_false] at hl ⊢
            exact ⟨hlt, w5, acc, xs, rfl, ok5, hDx5, x15, hD5, (ra.mono x3).mono x5, by rw [hM5]; exact hl⟩
          | true =>
            simp only [if_true] at hl ⊢
            obtain ⟨yv, M6, he6, hl⟩ := thn1_eq hl
            split at hl
            · rename_i hz
              refine ⟨w5, e4, yv, M6, rfl, ok5, er4.mono x5, by rw [hM5]; exact he6, fun w6 z hM6 ok6 x6 rz => ?_⟩
              have hDx6 : D ∈ w6.ex := x6.exm D hDx5
              have hD6 : w6.H D = some (.lst xs) := by
                rw [x6.hid D hDx5]
                exact hD5
              have ra6 : Dvs K W w6 xs acc := ((ra.mono x3).mono x5).mono x6
              refine ⟨xs, hD6, by rw [ra6.length]; exact hz, hlt, w6.upd D (.lst (xs ++ [z])), acc ++ [yv], xs ++ [z], rfl, ok6.upd hDx6 hD6, hDx6, Ext.upd ok1 (x15.trans x6) hD, upd_same, ?_, ?_⟩
              · exact Dvs.mono0 (Ext0.upd hDx6 hD6) _ _ (ra6.append (.one rz))
              · show lcL src.gd t mc me (wipeS sl vs) (src.its.drop (i + 1)) (acc ++ [yv]) w6.M = _
                rw [hM6]
                exact hl
            · cases hl
    · cases hl
  · have e : i = src.its.length := by omega
    rw [List.drop_eq_nil_of_le (by omega)] at hl
    unfold lcL at hl
    split at hl
    · rename_i hgd
      simp only [Option.some.injEq, Prod.mk.injEq] at hl
      obtain ⟨rfl, hM⟩ := hl
      obtain ⟨_, y2⟩ := y i w2 ok2 x2 hgd
      refine .inl ⟨y2 (by omega), f (w2.unh w1.ex) _ hM (ok2.unh x2.exm) (x1.trans x2.unh) ?_⟩
      refine .lst hDl ⟨?_, ok1.exf hD⟩ (Dvs.mono0 (Ext0.unh x2.exm) _ _ ra)
      rintro ⟨j, c, h3, _⟩
      exact (ok2.exl D hDx).1 (List.mem_of_getElem? h3)
    · cases hl
theorem re_lc {elt tg iter : Expr} {ifs : List Expr} {scope : Scope} {own : List (Str × Nat)} {pos : Pos} {mi : IM} {t : Tgt} {mc : TM} {me : EM} (hc : X.calm = true) (hN : X.N.Nodup) (hi : RI X tg iter mi) (ok : BlkOk X.N X.env.scope scope own)
    (hg : ∀ (s : Shared) (H : Hp) (C : Addr) (cl : List (Str × Addr)) (fp : List Addr), PG (X.blk s H scope (compEnvC scope cl C X.env) fp) tg (t.g X.K)) (ht : ∀ (s : Shared) (H : Hp) (C : Addr) (cl : List (Str × Addr)) (fp : List Addr), RTs (X.blk s H scope (compEnvC scope cl C X.env) fp) ifs mc)
    (he : ∀ (s : Shared) (H : Hp) (C : Addr) (cl : List (Str × Addr)) (fp : List Addr), RE (X.blk s H scope (compEnvC scope cl C X.env) fp) elt me) (hv : ∀ i ∈ t.slots, i ∈ own.map (·.2)) (hs : ∀ x, foldedSetIterable iter X.env x = pure x := by intro _; rfl) :
    RE X (.ListComp elt [⟨tg, iter, ifs, 0⟩] scope pos) (lcE mi t mc me (own.map (·.2))) :=
  pe_weak (pe_lc hc hN hi ok hg ht he hs) fun σ H Q q => lc_read hv q
theorem rs_setLc {i : Nat} {y : Str} {py : Pos} {elt tg iter : Expr} {ifs : List Expr} {scope : Scope} {own : List (Str × Nat)} {pos spos : Pos} {mi : IM} {t : Tgt} {mc : TM} {me : EM} (hc : X.calm = true) (hN : X.N.Nodup) (hyl : X.env.scope.names.lookup y = some .local)
    (hsw : swapsWith (.ListComp elt [⟨tg, iter, ifs, 0⟩] scope pos) (some (.Name y py)) spos.line X.env = pure true) (hi : RI X tg iter mi) (ok : BlkOk X.N X.env.scope scope own)
    (hg : ∀ (s : Shared) (H : Hp) (C : Addr) (cl : List (Str × Addr)) (fp : List Addr), PG (X.blk s H scope (compEnvC scope cl C X.env) fp) tg (t.g X.K)) (ht : ∀ (s : Shared) (H : Hp) (C : Addr) (cl : List (Str × Addr)) (fp : List Addr), RTs (X.blk s H scope (compEnvC scope cl C X.env) fp) ifs mc)
    (he : ∀ (s : Shared) (H : Hp) (C : Addr) (cl : List (Str × Addr)) (fp : List Addr), RE (X.blk s H scope (compEnvC scope cl C X.env) fp) elt me) (hv : ∀ i ∈ t.slots, i ∈ own.map (·.2)) (hy : X.N[i]? = some y := by rfl) (hs : ∀ x, foldedSetIterable iter X.env x = pure x := by intro _; rfl) :
    RS X (.Assign [.Name y py] (.ListComp elt [⟨tg, iter, ifs, 0⟩] scope pos) spos) (setS i (lcE mi t mc me (own.map (·.2)))) := by
  refine ps_weak (ps_setLc (i := i) (tt := tT X.K X.w mc) (te := tE X.K X.w me) hc hN hy hyl hsw hi ok hg ht he hs) fun D σ H q => ?_
  obtain ⟨w, sl, fl, sl', M', rfl, ok, er, hm, f⟩ := q
  obtain ⟨d, M1, h1, hm⟩ := thn1_eq hm
  cases hm
  exact lc_read hv ⟨w, sl, d, M', rfl, ok, er, h1, fun w1 v hM1 ok1 x1 r => f w1 hM1 ok1 x1 _ ((er.mono x1).set r i)⟩
end
end DL
/-! The data layer, part d: operators, comparisons, items, slices, built-ins over data. -/
namespace DL
open PySem PySem.Spec PyProof.Rows L2

section
variable {X : Cx} {K : PySem.W.Frag} {W : World}
/-! ### arithmetic -/
def pure2 (g : Dt → Dt → Option Dt) : Dt → Dt → Mem → Option (Dt × Mem) := fun a b M => pur (g a b) M
def addD : Dt → Dt → Option Dt
  | .int a, .int b => some (.int (a + b))
  | .str a, .str b => if a.length + b.length ≤ sizeLine then some (.str (a ++ b)) else none
  | .tup a, .tup b => if a.length + b.length ≤ sizeLine then some (.tup (a ++ b)) else none
  | .lst a, .lst b => if a.length + b.length ≤ sizeLine then some (.lst (a ++ b)) else none
  | _, _ => none
def rAddD (K : PySem.W.Frag) : R2 := fun x y H Q => (∃ i j, x = .int i ∧ y = .int j ∧ Q (.int (i + j)) H) ∨ ((∃ i j, x = .str i ∧ y = .str j ∧ i.length + j.length ≤ sizeLine ∧ Q (.str (i ++ j)) H) ∨ (rCatA K x y H Q ∨ rCat x y H Q))
theorem op_addD : OpR X (binaryOp .Add) (rAddD X.K) := op_add.or (op_add_str.or (op_catA.or op_cat))
theorem add_ok : R2Ok K W (rAddD K) (pure2 addD) := by
  intro w x y a b d M' Q ok rx ry h f
  replace h := pur_eq h
  obtain ⟨rfl, h⟩ := h
  cases rx with
  | int i =>
    cases ry with
    | int j =>
      simp only [addD, Option.some.injEq] at h
      subst h
      exact .inl ⟨i, j, rfl, rfl, fin_here f ok (.int _)⟩
    | _ => simp [addD] at h
  | str i =>
    cases ry with
    | str j =>
      simp only [addD] at h
      split at h
      · rename_i hl
        cases h
        exact .inr (.inl ⟨i, j, rfl, rfl, hl, fin_here f ok (.str _)⟩)
      · cases h
    | _ => simp [addD] at h
  | @tup p xs ds h1 h2 =>
    cases ry with
    | @tup q ys es k1 k2 =>
      simp only [addD] at h
      split at h
      · rename_i hl
        cases h
        refine .inr (.inr (.inl ⟨p, q, xs, ys, rfl, rfl, h1, k1, by rw [h2.length, k2.length]; exact hl, ?_, ?_, ?_⟩))
        · intro e
          subst e
          cases h2
          exact fin_here f ok (.tup k1 k2)
        · intro _ e
          subst e
          cases k2
          rw [List.append_nil] at f
          exact fin_here f ok (.tup h1 h2)
        · intro _ _
          exact fin_tup ok (h2.append k2) f
      · cases h
    | _ => simp [addD] at h
  | @lst p xs ds h1 n h2 =>
    cases ry with
    | @lst q ys es k1 n' k2 =>
      simp only [addD] at h
      split at h
      · rename_i hl
        cases h
        exact .inr (.inr (.inr ⟨p, q, xs, ys, rfl, rfl, h1, k1, by rw [h2.length, k2.length]; exact hl, fin_lst ok (h2.append k2) f⟩))
      · cases h
    | _ => simp [addD] at h
  | _ => simp [addD] at h
theorem re_add {a b : Expr} {pos : Pos} {ma mb : EM} (ha : RE X a ma) (hb : RE X b mb) : RE X (.BinOp a .Add b pos) (opE (pure2 addD) ma mb) := re_op op_addD add_ok ha hb
/-- ints under a condition -/
def intD (C : Int → Int → Prop) [∀ i j, Decidable (C i j)] (g : Int → Int → Int) : Dt → Dt → Option Dt
  | .int a, .int b => if C a b then some (.int (g a b)) else none
  | _, _ => none
theorem intD_ok (C : Int → Int → Prop) [∀ i j, Decidable (C i j)] (g : Int → Int → Int) : R2Ok K W (rI C fun i j => .int (g i j)) (pure2 (intD C g)) := by
  intro w x y a b d M' Q ok rx ry h f
  replace h := pur_eq h
  obtain ⟨rfl, h⟩ := h
  cases rx with
  | int i =>
    cases ry with
    | int j =>
      simp only [intD] at h
      split at h
      · rename_i hc
        cases h
        exact ⟨i, j, rfl, rfl, hc, fin_here f ok (.int _)⟩
      · cases h
    | _ => simp [intD] at h
  | _ => simp [intD] at h
instance (i j : Int) : Decidable (CMul i j) := by unfold CMul; infer_instance
instance (i j : Int) : Decidable (CDivN i j) := by unfold CDivN; infer_instance
instance (i j : Int) : Decidable (CPow i j) := by unfold CPow; infer_instance
abbrev mulD := intD CMul fun i j => i * j
abbrev fdivD := intD CDivN fun i j => i.fdiv j
abbrev fmodD := intD (fun _ j => j ≠ 0) fun i j => i.fmod j
abbrev powD := intD CPow fun i j => i ^ j.toNat
def subD : Dt → Dt → Option Dt
  | .int a, .int b => some (.int (a - b))
  | _, _ => none
theorem sub_ok : R2Ok K W (rI0 fun i j => .int (i - j)) (pure2 subD) := by
  intro w x y a b d M' Q ok rx ry h f
  replace h := pur_eq h
  obtain ⟨rfl, h⟩ := h
  cases rx with
  | int i =>
    cases ry with
    | int j =>
      simp only [subD, Option.some.injEq] at h
      subst h
      exact ⟨i, j, rfl, rfl, fin_here f ok (.int _)⟩
    | _ => simp [subD] at h
  | _ => simp [subD] at h
theorem re_mul {a b : Expr} {pos : Pos} {ma mb : EM} (ha : RE X a ma) (hb : RE X b mb) : RE X (.BinOp a .Mult b pos) (opE (pure2 mulD) ma mb) := re_op op_mul (intD_ok _ _) ha hb
theorem re_fdiv {a b : Expr} {pos : Pos} {ma mb : EM} (ha : RE X a ma) (hb : RE X b mb) : RE X (.BinOp a .FloorDiv b pos) (opE (pure2 fdivD) ma mb) := re_op op_fdivN (intD_ok _ _) ha hb
theorem re_mod {a b : Expr} {pos : Pos} {ma mb : EM} (ha : RE X a ma) (hb : RE X b mb) : RE X (.BinOp a .Mod b pos) (opE (pure2 fmodD) ma mb) := re_op op_modN (intD_ok _ _) ha hb
theorem re_pow {a b : Expr} {pos : Pos} {ma mb : EM} (ha : RE X a ma) (hb : RE X b mb) : RE X (.BinOp a .Pow b pos) (opE (pure2 powD) ma mb) := re_op op_pow (intD_ok _ _) ha hb
theorem re_sub {a b : Expr} {pos : Pos} {ma mb : EM} (ha : RE X a ma) (hb : RE X b mb) : RE X (.BinOp a .Sub b pos) (opE (pure2 subD) ma mb) := re_op op_sub sub_ok ha hb
theorem re_neg {a : Expr} {pos : Pos} {ma : EM} (ha : RE X a ma) : RE X (.UnaryOp .USub a pos) (unE negD ma) := re_un un_neg neg_ok ha

/-! ### data as the library's data -/
mutual
def toPy : Dt → Option PyData
  | .non => some .none
  | .bl b => some (.bool b)
  | .int i => some (.int i)
  | .str x => some (.str x)
  | .tup ds => (toPys ds).map .tuple
  | .lst ds => (toPys ds).map .list
  | .lsk ds => (toPys ds).map .list
  | .adr _ => none
  | .ty _ => none
  | .ref _ => none
  | .dic _ _ => none
  | .obj _ _ _ => none
  | .sett _ => none
def toPys : List Dt → Option (List PyData)
  | [] => some []
  | d :: ds => match toPy d, toPys ds with
    | some k, some ks => some (k :: ks)
    | _, _ => none
end
theorem toPys_cons {d : Dt} {ds : List Dt} {ks : List PyData} (h : toPys (d :: ds) = some ks) : ∃ k r, toPy d = some k ∧ toPys ds = some r ∧ ks = k :: r := by
  rw [toPys] at h
  cases h1 : toPy d with
  | none => simp [h1] at h
  | some k =>
    cases h2 : toPys ds with
    | none => simp [h1, h2] at h
    | some r =>
      simp only [h1, h2, Option.some.injEq] at h
      exact ⟨k, r, rfl, rfl, h.symm⟩
mutual
theorem Dv.dp {w : Ws} : ∀ (d : Dt) (v : V) (p : PyData), Dv K W w v d → toPy d = some p → Dp K w.H v p
  | .non, _, _, h, e => by cases h; simp [toPy] at e; subst e; exact .non
  | .bl b, _, _, h, e => by cases h; simp [toPy] at e; subst e; exact .bl b
  | .int i, _, _, h, e => by cases h; simp [toPy] at e; subst e; exact .int i
  | .str x, _, _, h, e => by cases h; simp [toPy] at e; subst e; exact .str x
  | .tup ds, _, p, h, e => by
    rw [toPy, Option.map_eq_some_iff] at e
    obtain ⟨ps, e, rfl⟩ := e
    cases h with | tup h1 h2 => exact .tup h1 (Dvs.dp ds _ ps h2 e)
  | .lst ds, _, p, h, e => by
    rw [toPy, Option.map_eq_some_iff] at e
    obtain ⟨ps, e, rfl⟩ := e
    cases h with | lst h1 n h2 => exact .lst (SqL.of h1) (Dvs.dp ds _ ps h2 e)
  | .lsk ds, _, p, h, e => by
    rw [toPy, Option.map_eq_some_iff] at e
    obtain ⟨ps, e, rfl⟩ := e
    cases h with | lstK h1 h2 => exact .lst h1.sq (Dvs.dp ds _ ps h2 e)
  | .adr _, _, _, _, e => by simp [toPy] at e
  | .ty _, _, _, _, e => by simp [toPy] at e
  | .ref _, _, _, _, e => by simp [toPy] at e
  | .dic _ _, _, _, _, e => by simp [toPy] at e
  | .obj _ _ _, _, _, _, e => by simp [toPy] at e
  | .sett _, _, _, _, e => by simp [toPy] at e
theorem Dvs.dp {w : Ws} : ∀ (ds : List Dt) (vs : List V) (ps : List PyData), Dvs K W w vs ds → toPys ds = some ps → DpAll K w.H vs ps
  | [], _, _, h, e => by cases h; simp [toPys] at e; subst e; exact .nil
  | d :: ds, _, ps, h, e => by
    obtain ⟨k, r, e1, e2, rfl⟩ := toPys_cons e
    cases h with
    | cons h1 h2 => exact .cons (Dv.dp d _ k h1 e1) (Dvs.dp ds _ r h2 e2)
end
/-- a list in a cell as the list -/
def deref (M : Mem) : Dt → Dt
  | .ref i => match M[i]? with
    | some (some (.lst ds)) => .lst ds
    | _ => .ref i
  | d => d
theorem deref_dp {w : Ws} {d : Dt} {v : V} {p : PyData} (ok : Ok K W w) (r : Dv K W w v d) (e : toPy (deref w.M d) = some p) : Dp K w.H v p := by
  cases d with
  | ref i =>
    simp only [deref] at e
    split at e
    · rename_i ds hc
      rw [toPy, Option.map_eq_some_iff] at e
      obtain ⟨ps, e, rfl⟩ := e
      cases r with
      | ref hr =>
        obtain ⟨xs, hx, q⟩ := ok.cells _ _ _ hr hc
        exact .lst (SqL.of hx) (Dvs.dp ds _ ps q e)
    · simp [toPy] at e
  | _ => exact Dv.dp _ _ _ r e
/-- == -/
def eqO (M : Mem) (a b : Dt) : Option Bool := match toPy (deref M a), toPy (deref M b) with
  | some p, some q => if SeqAt.shaped p = true ∧ SeqAt.shaped q = true then some (PyData.eqv p q) else none
  | _, _ => none
theorem eqO_eq {M : Mem} {a b : Dt} {r : Bool} (h : eqO M a b = some r) : ∃ p q, toPy (deref M a) = some p ∧ toPy (deref M b) = some q ∧ SeqAt.shaped p = true ∧ SeqAt.shaped q = true ∧ r = PyData.eqv p q := by
  unfold eqO at h
  split at h
  · rename_i p q h1 h2
    split at h
    · rename_i hs
      cases h
      exact ⟨p, q, h1, h2, hs.1, hs.2, rfl⟩
    · cases h
  · cases h
def eqD : Dt → Dt → Mem → Option (Dt × Mem) := fun a b M => pur ((eqO M a b).map .bl) M
def neD : Dt → Dt → Mem → Option (Dt × Mem) := fun a b M => pur ((eqO M a b).map fun c => .bl (!c)) M
theorem eq_ok : R2Ok K W (rEqD K) eqD := by
  intro w x y a b d M' Q ok rx ry h f
  replace h := pur_eq h
  obtain ⟨rfl, h⟩ := h
  obtain ⟨r, hr, rfl⟩ := Option.map_eq_some_iff.mp h
  obtain ⟨p, q, h1, h2, s1, s2, rfl⟩ := eqO_eq hr
  exact ⟨p, q, deref_dp ok rx h1, deref_dp ok ry h2, s1, s2, fin_here f ok (.bl _)⟩
theorem ne_ok : R2Ok K W (rNeD K) neD := by
  intro w x y a b d M' Q ok rx ry h f
  replace h := pur_eq h
  obtain ⟨rfl, h⟩ := h
  obtain ⟨r, hr, rfl⟩ := Option.map_eq_some_iff.mp h
  obtain ⟨p, q, h1, h2, s1, s2, rfl⟩ := eqO_eq hr
  exact ⟨p, q, deref_dp ok rx h1, deref_dp ok ry h2, s1, s2, fin_here f ok (.bl _)⟩
theorem re_eq {a b : Expr} {pos : Pos} {k : Nat} {ma mb : EM} (hr : Room k X.A) (ha : RE X a ma) (hb : RE X b mb) : RE X (.Compare a [.Eq] [b] pos) (opE eqD ma mb) := re_cmp (op_eqD hr.units) eq_ok (nomark _) ha hb
theorem re_ne {a b : Expr} {pos : Pos} {k : Nat} {ma mb : EM} (hr : Room k X.A) (ha : RE X a ma) (hb : RE X b mb) : RE X (.Compare a [.NotEq] [b] pos) (opE neD ma mb) := re_cmp (op_neD hr.units) ne_ok (nomark _) ha hb
theorem rt_eq {a b : Expr} {pos : Pos} {k : Nat} {ma mb : EM} (hr : Room k X.A) (ha : RE X a ma) (hb : RE X b mb) : RT X (.Compare a [.Eq] [b] pos) (blT (opE eqD ma mb)) := rt_cmp (op_eqD hr.units) eq_ok (nomark _) ha hb
theorem rt_ne {a b : Expr} {pos : Pos} {k : Nat} {ma mb : EM} (hr : Room k X.A) (ha : RE X a ma) (hb : RE X b mb) : RT X (.Compare a [.NotEq] [b] pos) (blT (opE neD ma mb)) := rt_cmp (op_neD hr.units) ne_ok (nomark _) ha hb
/-- is None, is not None -/
def isNon : Dt → Bool
  | .non => true
  | _ => false
def isND : Dt → Dt → Option Dt
  | a, .non => some (.bl (isNon a))
  | _, _ => none
def isnND : Dt → Dt → Option Dt
  | a, .non => some (.bl (!isNon a))
  | _, _ => none
theorem Dv.isN {w : Ws} {x : V} {a : Dt} (r : Dv K W w x a) : decide (x = .non) = isNon a := by
  cases r <;> simp [isNon]
theorem isN_ok : R2Ok K W (fun x y H Q => y = .non ∧ Q (.bl (decide (x = .non))) H) (pure2 isND) := by
  intro w x y a b d M' Q ok rx ry h f
  replace h := pur_eq h
  obtain ⟨rfl, h⟩ := h
  cases ry <;> simp only [isND, Option.some.injEq, reduceCtorEq] at h
  subst h
  refine ⟨rfl, ?_⟩
  rw [rx.isN]
  exact fin_here f ok (.bl _)
theorem isnN_ok : R2Ok K W (fun x y H Q => y = .non ∧ Q (.bl (!decide (x = .non))) H) (pure2 isnND) := by
  intro w x y a b d M' Q ok rx ry h f
  replace h := pur_eq h
  obtain ⟨rfl, h⟩ := h
  cases ry <;> simp only [isnND, Option.some.injEq, reduceCtorEq] at h
  subst h
  refine ⟨rfl, ?_⟩
  rw [rx.isN]
  exact fin_here f ok (.bl _)
theorem re_isN {a b : Expr} {pos : Pos} {ma mb : EM} (ha : RE X a ma) (hb : RE X b mb) : RE X (.Compare a [.Is] [b] pos) (opE (pure2 isND) ma mb) := re_cmp op_isN isN_ok (nomark _) ha hb
theorem re_isnN {a b : Expr} {pos : Pos} {ma mb : EM} (ha : RE X a ma) (hb : RE X b mb) : RE X (.Compare a [.IsNot] [b] pos) (opE (pure2 isnND) ma mb) := re_cmp op_notN isnN_ok (nomark _) ha hb
theorem rt_isN {a b : Expr} {pos : Pos} {ma mb : EM} (ha : RE X a ma) (hb : RE X b mb) : RT X (.Compare a [.Is] [b] pos) (blT (opE (pure2 isND) ma mb)) := rt_cmp op_isN isN_ok (nomark _) ha hb
theorem rt_isnN {a b : Expr} {pos : Pos} {ma mb : EM} (ha : RE X a ma) (hb : RE X b mb) : RT X (.Compare a [.IsNot] [b] pos) (blT (opE (pure2 isnND) ma mb)) := rt_cmp op_notN isnN_ok (nomark _) ha hb
/-- the order of ints -/
def cmpD (p : Int → Int → Bool) : Dt → Dt → Option Dt
  | .int a, .int b => some (.bl (p a b))
  | _, _ => none
theorem cmp_ok (p : Int → Int → Bool) : R2Ok K W (rI0 fun i j => .bl (p i j)) (pure2 (cmpD p)) := by
  intro w x y a b d M' Q ok rx ry h f
  replace h := pur_eq h
  obtain ⟨rfl, h⟩ := h
  cases rx with
  | int i =>
    cases ry with
    | int j =>
      simp only [cmpD, Option.some.injEq] at h
      subst h
      exact ⟨i, j, rfl, rfl, fin_here f ok (.bl _)⟩
    | _ => simp [cmpD] at h
  | _ => simp [cmpD] at h
abbrev leI := cmpD fun i j => decide (i ≤ j)
abbrev gtI := cmpD fun i j => decide (j < i)
abbrev geI := cmpD fun i j => decide (j ≤ i)
theorem re_le {a b : Expr} {pos : Pos} {ma mb : EM} (ha : RE X a ma) (hb : RE X b mb) : RE X (.Compare a [.LtE] [b] pos) (opE (pure2 leI) ma mb) := re_cmp op_le (cmp_ok _) (nomark _) ha hb
theorem re_gt {a b : Expr} {pos : Pos} {ma mb : EM} (ha : RE X a ma) (hb : RE X b mb) : RE X (.Compare a [.Gt] [b] pos) (opE (pure2 gtI) ma mb) := re_cmp op_gt (cmp_ok _) (nomark _) ha hb
theorem re_ge {a b : Expr} {pos : Pos} {ma mb : EM} (ha : RE X a ma) (hb : RE X b mb) : RE X (.Compare a [.GtE] [b] pos) (opE (pure2 geI) ma mb) := re_cmp op_ge (cmp_ok _) (nomark _) ha hb
theorem rt_le {a b : Expr} {pos : Pos} {ma mb : EM} (ha : RE X a ma) (hb : RE X b mb) : RT X (.Compare a [.LtE] [b] pos) (blT (opE (pure2 leI) ma mb)) := rt_cmp op_le (cmp_ok _) (nomark _) ha hb
theorem rt_gt {a b : Expr} {pos : Pos} {ma mb : EM} (ha : RE X a ma) (hb : RE X b mb) : RT X (.Compare a [.Gt] [b] pos) (blT (opE (pure2 gtI) ma mb)) := rt_cmp op_gt (cmp_ok _) (nomark _) ha hb
theorem rt_ge {a b : Expr} {pos : Pos} {ma mb : EM} (ha : RE X a ma) (hb : RE X b mb) : RT X (.Compare a [.GtE] [b] pos) (blT (opE (pure2 geI) ma mb)) := rt_cmp op_ge (cmp_ok _) (nomark _) ha hb

/-! ### items, slices of sequences -/
def seqAt (M : Mem) : Dt → Option (List Dt)
  | .tup ds => some ds
  | .lst ds => some ds
  | .lsk ds => some ds
  | .ref i => match M[i]? with
    | some (some (.lst ds)) => some ds
    | _ => none
  | _ => none
theorem seqAt_ok {w : Ws} {d : Dt} {v : V} {ds : List Dt} (ok : Ok K W w) (r : Dv K W w v d) (h : seqAt w.M d = some ds) : ∃ a xs, v = .ref a ∧ (SqL K w.H a xs ∨ SqT K w.H a xs) ∧ Dvs K W w xs ds := by
  cases r with
  | tup h1 h2 => simp only [seqAt, Option.some.injEq] at h; subst h; exact ⟨_, _, rfl, .inr h1, h2⟩
  | lst h1 _ h2 => simp only [seqAt, Option.some.injEq] at h; subst h; exact ⟨_, _, rfl, .inl (SqL.of h1), h2⟩
  | lstK h1 h2 => simp only [seqAt, Option.some.injEq] at h; subst h; exact ⟨_, _, rfl, .inl h1.sq, h2⟩
  | ref hr =>
    simp only [seqAt] at h
    split at h
    · rename_i es hc
      cases h
      obtain ⟨xs, hx, q⟩ := ok.cells _ _ _ hr hc
      exact ⟨_, _, rfl, .inl (SqL.of hx), q⟩
    · cases h
  | _ => simp [seqAt] at h
theorem Dvs.atI {w : Ws} {xs : List V} {ds : List Dt} {i : Int} {d : Dt} (h : Dvs K W w xs ds) (e : atI ds i = some d) : ∃ v, L2.atI xs i = some v ∧ Dv K W w v d := by
  unfold L2.atI at e ⊢
  rw [h.length]
  cases hj : ixN ds.length i with
  | none => rw [hj] at e; cases e
  | some j =>
    rw [hj] at e
    exact h.get e
def ixD : Dt → Dt → Mem → Option (Dt × Mem) := fun a b M => match b with
  | .int i => match a with
    | .str x => if x.length ≤ sizeLine then pur ((atI x.cps.toList i).map fun c => .str ⟨#[c]⟩) M else none
    | a => pur ((seqAt M a).bind fun ds => atI ds i) M
  | _ => none
theorem ix_ok : R2Ok K W (rIx K) ixD := by
  intro w x y a b d M' Q ok rx ry h f
  unfold ixD at h
  cases ry with
  | int i =>
    by_cases hs : ∃ z, a = .str z
    · obtain ⟨z, rfl⟩ := hs
      simp only at h
      split at h
      · rename_i hl
        replace h := pur_eq h
        obtain ⟨rfl, h⟩ := h
        obtain ⟨c, hc, rfl⟩ := Option.map_eq_some_iff.mp h
        cases rx
        exact .inr (.inr ⟨z, i, c, rfl, rfl, hl, hc, fin_here f ok (.str _)⟩)
      · cases h
    · have h' : pur ((seqAt w.M a).bind fun ds => atI ds i) w.M = some (d, M') := by
        cases a with
        | str z => exact absurd ⟨z, rfl⟩ hs
        | _ => exact h
      replace h' := pur_eq h'
      obtain ⟨rfl, h'⟩ := h'
      cases e : seqAt w.M a with
      | none => rw [e] at h'; cases h'
      | some ds =>
        rw [e] at h'
        obtain ⟨p, xs, rfl, q, r⟩ := seqAt_ok ok rx e
        obtain ⟨v, hv, rv⟩ := r.atI h'
        rcases q with q | q
        · exact .inl ⟨p, xs, i, v, rfl, rfl, q, hv, fin_here f ok rv⟩
        · exact .inr (.inl ⟨p, xs, i, v, rfl, rfl, q, hv, fin_here f ok rv⟩)
  | _ => simp at h
theorem re_ix {a b : Expr} {pos : Pos} {ma mb : EM} (ha : RE X a ma) (hb : RE X b mb) (hs : PlainIx b := by exact fun _ _ => rfl) : RE X (.Subscript a b pos) (opE ixD ma mb) := pe_weak (pe_ix ix_seq ha hb hs) (opE_ok ix_ok)
/-- a part of a slice -/
abbrev OM := Sl → Mem → Option (Option Int × Mem)
def tO (K : PySem.W.Frag) (W : World) (m : OM) : TO := fun σ H R => ∃ w e o M', w.H = H ∧ Ok K W w ∧ EnvR K W w σ e ∧ m e w.M = some (o, M') ∧ ∀ w', w'.M = M' → Ok K W w' → Ext w w' → R o w'.H
def noO : OM := fun _ M => some (none, M)
def someO (m : EM) : OM := fun e M => thn1 (m e M) fun d M1 => match d with
  | .int i => some (some i, M1)
  | _ => none
abbrev RO (X : Cx) (e : Option Expr) (m : OM) : Prop := PO X e (tO X.K X.w m)
theorem po_weak {e : Option Expr} {t t' : TO} (h : PO X e t) (k : ∀ σ H R, t' σ H R → t σ H R) : PO X e t' := ⟨fun pins s σ H R I q => h.run pins s σ H R I (k σ H R q)⟩
theorem ro_none : RO X none noO := po_weak po_none fun σ H R q => by
  obtain ⟨w, e, o, M', rfl, ok, er, hm, f⟩ := q
  cases hm
  exact f w rfl ok (Ext.refl w)
theorem ro_some {e : Expr} {m : EM} (h : RE X e m) : RO X (some e) (someO m) := po_weak (po_some h) fun σ H R q => by
  obtain ⟨w, e, o, M', rfl, ok, er, hm, f⟩ := q
  obtain ⟨d, M1, h1, hm⟩ := thn1_eq hm
  refine ⟨w, e, d, M1, rfl, ok, er, h1, fun w1 v hM1 ok1 x1 r => ?_⟩
  cases r with
  | int i =>
    simp only [Option.some.injEq, Prod.mk.injEq] at hm
    obtain ⟨rfl, rfl⟩ := hm
    exact ⟨i, rfl, f w1 hM1 ok1 x1⟩
  | _ => simp at hm
def cutL {α : Type} (xs : List α) (lo hi : Option Int) : List α := (xs.drop (HT.sIx xs.length 0 lo)).take (HT.sIx xs.length xs.length hi - HT.sIx xs.length 0 lo)
def slD (M : Mem) : Dt → Option Int → Option Int → Option Dt
  | .tup ds, lo, hi => some (.tup (cutL ds lo hi))
  | .str x, lo, hi => if x.length ≤ sizeLine then some (.str (cutS x lo hi)) else none
  | d, lo, hi => (seqAt M d).map fun ds => .lst (cutL ds lo hi)
def slE (a : EM) (lo hi : OM) : EM := fun e M => thn1 (a e M) fun d M1 => thn1 (lo e M1) fun l M2 => thn1 (hi e M2) fun u M3 => pur (slD M3 d l u) M3
def rSlD (K : PySem.W.Frag) : V → Option Int → Option Int → Hp → VK → Prop := fun x lo hi H Q => rSlA K x lo hi H Q ∨ (rSlL K x lo hi H Q ∨ (∃ z, x = .str z ∧ z.length ≤ sizeLine ∧ Q (.str (cutS z lo hi)) H))
theorem cutV_eq (xs : List V) (lo hi : Option Int) : cutV xs lo hi = cutL xs lo hi := rfl
theorem Dvs.cutL {w : Ws} {xs : List V} {ds : List Dt} (h : Dvs K W w xs ds) (lo hi : Option Int) : Dvs K W w (DL.cutL xs lo hi) (DL.cutL ds lo hi) := by
  unfold DL.cutL
  rw [h.length]
  exact (h.drop _).take _
theorem cutL_whole {α : Type} (xs : List α) (lo hi : Option Int) (h : HT.sIx xs.length 0 lo = 0 ∧ HT.sIx xs.length xs.length hi = xs.length) : cutL xs lo hi = xs := by
  unfold cutL
  rw [h.1, h.2]
  simp
theorem sl_any : SlR X (rSlD X.K) := sl_tupA.or (sl_list.or sl_str)
theorem re_sl {e : Expr} {lo hi : Option Expr} {p2 pos : Pos} {ma : EM} {ml mh : OM} (he : RE X e ma) (hl : RO X lo ml) (hh : RO X hi mh) : RE X (.Subscript e (.Slice lo hi none p2) pos) (slE ma ml mh) := by
  refine pe_weak (pe_slice sl_any he hl hh) fun σ H Q q => ?_
  obtain ⟨w, sl, d, M', rfl, ok, er, hm, f⟩ := q
  obtain ⟨a, M1, h1, hm⟩ := thn1_eq hm
  obtain ⟨l, M2, h2, hm⟩ := thn1_eq hm
  obtain ⟨u, M3, h3, hm⟩ := thn1_eq hm
  replace hm := pur_eq hm
  obtain ⟨rfl, hm⟩ := hm
  refine ⟨w, sl, a, M1, rfl, ok, er, h1, fun w1 v hM1 ok1 x1 r => ?_⟩
  refine ⟨w1, sl, l, M2, rfl, ok1, er.mono x1, by rw [hM1]; exact h2, fun w2 hM2 ok2 x2 => ?_⟩
  refine ⟨w2, sl, u, M', rfl, ok2, (er.mono x1).mono x2, by rw [hM2]; exact h3, fun w3 hM3 ok3 x3 => ?_⟩
  have r3 := (r.mono x2).mono x3
  have f3 : Fin1 X.K X.w w3 d w3.M Q := by rw [hM3]; exact f.after ((x1.trans x2).trans x3)
  rw [← hM3] at hm
  cases r3 with
  | @tup p xs ds hs rs =>
    simp only [slD, Option.some.injEq] at hm
    subst hm
    refine .inl ⟨p, xs, rfl, hs, fun hw => ?_, fun _ => ?_⟩
    · rw [cutL_whole ds l u (by rw [← rs.length]; exact hw)] at f3
      exact fin_here f3 ok3 (.tup hs rs)
    · exact fin_tup ok3 (rs.cutL l u) f3
  | str z =>
    simp only [slD] at hm
    split at hm
    · rename_i hz
      cases hm
      exact .inr (.inr ⟨z, rfl, hz, fin_here f3 ok3 (.str _)⟩)
    · cases hm
  | @lst p xs ds hs n rs =>
    simp only [slD, seqAt, Option.map_some, Option.some.injEq] at hm
    subst hm
    exact .inr (.inl ⟨p, xs, rfl, SqL.of hs, fin_lst ok3 (rs.cutL l u) f3⟩)
  | @lstK p xs ds hs rs =>
    simp only [slD, seqAt, Option.map_some, Option.some.injEq] at hm
    subst hm
    exact .inr (.inl ⟨p, xs, rfl, hs.sq, fin_lst ok3 (rs.cutL l u) f3⟩)
  | @ref i a hr =>
    simp only [slD] at hm
    cases e : seqAt w3.M (.ref i) with
    | none => rw [e] at hm; cases hm
    | some ds =>
      rw [e] at hm
      simp only [Option.map_some, Option.some.injEq] at hm
      subst hm
      simp only [seqAt] at e
      split at e
      · rename_i es hc
        cases e
        obtain ⟨xs, hx, q⟩ := ok3.cells _ _ _ hr hc
        exact .inr (.inl ⟨_, xs, rfl, SqL.of hx, fin_lst ok3 (q.cutL l u) f3⟩)
      · cases e
  | _ => simp [slD, seqAt] at hm

/-! ### built-ins -/
def pureF (g : List Dt → Option Dt) : FM := fun ds M => pur (g ds) M
def lenD (M : Mem) : Dt → Option Nat
  | .str x => if x.length ≤ sizeLine then some x.length else none
  | d => (seqAt M d).map (·.length)
def lenF : FM := fun ds M => match ds with
  | [d] => pur ((lenD M d).map fun (n : Nat) => Dt.int (n : Int)) M
  | _ => none
theorem len_ok : C1Ok K W (fun xs H Q => ∃ x n, xs = [x] ∧ LenV K x H n ∧ Q (.int n) H) lenF := by
  intro w xs ds d M' Q ok r h f
  cases r with
  | nil => simp [lenF] at h
  | @cons x xs a ds rx r =>
    cases r with
    | cons _ _ => simp [lenF] at h
    | nil =>
      replace h := pur_eq h
      obtain ⟨rfl, h⟩ := h
      obtain ⟨n, hn, rfl⟩ := Option.map_eq_some_iff.mp h
      refine ⟨x, n, rfl, ?_, fin_here f ok (.int _)⟩
      cases a with
      | str z =>
        simp only [lenD] at hn
        split at hn
        · rename_i hz
          cases hn
          cases rx
          exact ⟨hz, rfl⟩
        · cases hn
      | _ =>
        simp only [lenD, Option.map_eq_some_iff] at hn
        obtain ⟨es, he, rfl⟩ := hn
        obtain ⟨p, ys, rfl, q, rs⟩ := seqAt_ok ok rx he
        rcases q with q | q
        · exact .inl ⟨ys, q, by rw [rs.length]⟩
        · exact .inr ⟨ys, q, by rw [rs.length]⟩
def absF : List Dt → Option Dt
  | [.int i] => some (.int (if i < 0 then -i else i))
  | _ => none
theorem one_arg {w : Ws} {xs : List V} {d : Dt} (r : Dvs K W w xs [d]) : ∃ x, xs = [x] ∧ Dv K W w x d := by
  cases r with
  | cons r1 r2 => cases r2; exact ⟨_, rfl, r1⟩
theorem abs_ok : C1Ok K W (fun xs H Q => ∃ i, xs = [.int i] ∧ Q (.int (if i < 0 then -i else i)) H) (pureF absF) := by
  intro w xs ds d M' Q ok r h f
  replace h := pur_eq h
  obtain ⟨rfl, h⟩ := h
  unfold absF at h
  split at h
  · cases h
    obtain ⟨x, rfl, rx⟩ := one_arg r
    cases rx
    exact ⟨_, rfl, fin_here f ok (.int _)⟩
  · cases h
def intF : List Dt → Option Dt
  | [.int i] => some (.int i)
  | [.bl b] => some (.int (if b then 1 else 0))
  | _ => none
theorem int_ok : C1Ok K W (fun xs H Q => (∃ i, xs = [.int i] ∧ Q (.int i) H) ∨ ∃ k, xs = [.bl k] ∧ Q (.int (if k then 1 else 0)) H) (pureF intF) := by
  intro w xs ds d M' Q ok r h f
  replace h := pur_eq h
  obtain ⟨rfl, h⟩ := h
  unfold intF at h
  split at h
  · cases h
    obtain ⟨x, rfl, rx⟩ := one_arg r
    cases rx
    exact .inl ⟨_, rfl, fin_here f ok (.int _)⟩
  · cases h
    obtain ⟨x, rfl, rx⟩ := one_arg r
    cases rx
    exact .inr ⟨_, rfl, fin_here f ok (.int _)⟩
  · cases h
def minF : List Dt → Option Dt
  | [.int i, .int j] => some (.int (if j < i then j else i))
  | _ => none
def maxF : List Dt → Option Dt
  | [.int i, .int j] => some (.int (if j > i then j else i))
  | _ => none
theorem two_args {w : Ws} {xs : List V} {d e : Dt} (r : Dvs K W w xs [d, e]) : ∃ x y, xs = [x, y] ∧ Dv K W w x d ∧ Dv K W w y e := by
  cases r with
  | cons r1 r2 =>
    obtain ⟨y, rfl, r3⟩ := one_arg r2
    exact ⟨_, _, rfl, r1, r3⟩
theorem min_ok : C1Ok K W (fun xs H Q => ∃ i j, xs = [.int i, .int j] ∧ Q (.int (if j < i then j else i)) H) (pureF minF) := by
  intro w xs ds d M' Q ok r h f
  replace h := pur_eq h
  obtain ⟨rfl, h⟩ := h
  unfold minF at h
  split at h
  · cases h
    obtain ⟨x, y, rfl, rx, ry⟩ := two_args r
    cases rx
    cases ry
    exact ⟨_, _, rfl, fin_here f ok (.int _)⟩
  · cases h
theorem max_ok : C1Ok K W (fun xs H Q => ∃ i j, xs = [.int i, .int j] ∧ Q (.int (if j > i then j else i)) H) (pureF maxF) := by
  intro w xs ds d M' Q ok r h f
  replace h := pur_eq h
  obtain ⟨rfl, h⟩ := h
  unfold maxF at h
  split at h
  · cases h
    obtain ⟨x, y, rfl, rx, ry⟩ := two_args r
    cases rx
    cases ry
    exact ⟨_, _, rfl, fin_here f ok (.int _)⟩
  · cases h
/-- all, any over a list of bools -/
def toBl : Dt → Option Bool
  | .bl b => some b
  | _ => none
def toBls : List Dt → Option (List Bool)
  | [] => some []
  | d :: ds => match toBl d, toBls ds with
    | some b, some bs => some (b :: bs)
    | _, _ => none
theorem Dvs.bls {w : Ws} : ∀ {xs : List V} {ds : List Dt} {bs : List Bool}, Dvs K W w xs ds → toBls ds = some bs → xs = bs.map V.bl
  | _, _, _, .nil, h => by simp [toBls] at h; subst h; rfl
  | _, _, _, @Dvs.cons _ _ _ x xs d ds r t, h => by
    unfold toBls at h
    cases r with
    | bl b =>
      cases e : toBls ds with
      | none => simp [toBl, e] at h
      | some bs =>
        simp [toBl, e] at h
        subst h
        rw [List.map_cons, t.bls e]
    | _ => simp [toBl] at h
def lstAt (M : Mem) : Dt → Option (List Dt)
  | .lst ds => some ds
  | .lsk ds => some ds
  | .ref i => match M[i]? with
    | some (some (.lst ds)) => some ds
    | _ => none
  | _ => none
theorem lstAt_ok {w : Ws} {d : Dt} {v : V} {ds : List Dt} (ok : Ok K W w) (r : Dv K W w v d) (h : lstAt w.M d = some ds) : ∃ a xs, v = .ref a ∧ SqL K w.H a xs ∧ Dvs K W w xs ds := by
  cases r with
  | lst h1 _ h2 => simp only [lstAt, Option.some.injEq] at h; subst h; exact ⟨_, _, rfl, SqL.of h1, h2⟩
  | lstK h1 h2 => simp only [lstAt, Option.some.injEq] at h; subst h; exact ⟨_, _, rfl, h1.sq, h2⟩
  | ref hr =>
    simp only [lstAt] at h
    split at h
    · rename_i es hc
      cases h
      obtain ⟨xs, hx, q⟩ := ok.cells _ _ _ hr hc
      exact ⟨_, _, rfl, SqL.of hx, q⟩
    · cases h
  | _ => simp [lstAt] at h
def allF : FM := fun ds M => match ds with
  | [d] => pur (((lstAt M d).bind toBls).map fun bs => .bl (bs.all id)) M
  | _ => none
def anyF : FM := fun ds M => match ds with
  | [d] => pur (((lstAt M d).bind toBls).map fun bs => .bl (bs.any id)) M
  | _ => none
theorem all_ok : C1Ok K W (rAll K) allF := by
  intro w xs ds d M' Q ok r h f
  cases r with
  | nil => simp [allF] at h
  | @cons x xs a ds rx r =>
    cases r with
    | cons _ _ => simp [allF] at h
    | nil =>
      replace h := pur_eq h
      obtain ⟨rfl, h⟩ := h
      obtain ⟨bs, hb, rfl⟩ := Option.map_eq_some_iff.mp h
      cases e : lstAt w.M a with
      | none => rw [e] at hb; cases hb
      | some es =>
        rw [e] at hb
        obtain ⟨p, ys, rfl, q, rs⟩ := lstAt_ok ok rx e
        have hy := rs.bls hb
        subst hy
        exact ⟨p, bs, rfl, q, fin_here f ok (.bl _)⟩
theorem any_ok : C1Ok K W (rAny K) anyF := by
  intro w xs ds d M' Q ok r h f
  cases r with
  | nil => simp [anyF] at h
  | @cons x xs a ds rx r =>
    cases r with
    | cons _ _ => simp [anyF] at h
    | nil =>
      replace h := pur_eq h
      obtain ⟨rfl, h⟩ := h
      obtain ⟨bs, hb, rfl⟩ := Option.map_eq_some_iff.mp h
      cases e : lstAt w.M a with
      | none => rw [e] at hb; cases hb
      | some es =>
        rw [e] at hb
        obtain ⟨p, ys, rfl, q, rs⟩ := lstAt_ok ok rx e
        have hy := rs.bls hb
        subst hy
        exact ⟨p, bs, rfl, q, fin_here f ok (.bl _)⟩
/-- tuple(x), list(x) of a list or a tuple -/
def tupleF : FM := fun ds M => match ds with
  | [d] => pur ((seqAt M d).map .tup) M
  | _ => none
theorem tuple_ok : C1Ok K W (fun xs H Q => ∃ p ys, xs = [.ref p] ∧ ((SqL K H p ys ∧ ∀ l, H l = none → Q (.ref l) (upd H l (.tup ys))) ∨ (SqT K H p ys ∧ Q (.ref p) H))) tupleF := by
  intro w xs ds d M' Q ok r h f
  cases r with
  | nil => simp [tupleF] at h
  | @cons x xs a ds rx r =>
    cases r with
    | cons _ _ => simp [tupleF] at h
    | nil =>
      replace h := pur_eq h
      obtain ⟨rfl, h⟩ := h
      obtain ⟨es, he, rfl⟩ := Option.map_eq_some_iff.mp h
      obtain ⟨p, ys, rfl, q, rs⟩ := seqAt_ok ok rx he
      rcases q with q | q
      · exact ⟨p, ys, rfl, .inl ⟨q, fin_tup ok rs f⟩⟩
      · exact ⟨p, ys, rfl, .inr ⟨q, fin_here f ok (.tup q rs)⟩⟩
def listF : FM := fun ds M => match ds with
  | [d] => pur ((seqAt M d).map .lst) M
  | _ => none
theorem list_ok : C1Ok K W (fun xs H Q => ∃ p ys, xs = [.ref p] ∧ (SqL K H p ys ∨ SqT K H p ys) ∧ ∀ l, H l = none → Q (.ref l) (upd H l (.lst ys))) listF := by
  intro w xs ds d M' Q ok r h f
  cases r with
  | nil => simp [listF] at h
  | @cons x xs a ds rx r =>
    cases r with
    | cons _ _ => simp [listF] at h
    | nil =>
      replace h := pur_eq h
      obtain ⟨rfl, h⟩ := h
      obtain ⟨es, he, rfl⟩ := Option.map_eq_some_iff.mp h
      obtain ⟨p, ys, rfl, q, rs⟩ := seqAt_ok ok rx he
      exact ⟨p, ys, rfl, q, fin_lst ok rs f⟩
/-- list(x), to be changed -/
def listC : FM := fun ds M => match ds with
  | [d] => match seqAt M d with
    | some es => some (.ref M.length, M ++ [some (.lst es)])
    | none => none
  | _ => none
theorem listC_ok : C1Ok K W (fun xs H Q => ∃ p ys, xs = [.ref p] ∧ (SqL K H p ys ∨ SqT K H p ys) ∧ ∀ l, H l = none → Q (.ref l) (upd H l (.lst ys))) listC := by
  intro w xs ds d M' Q ok r h f
  cases r with
  | nil => simp [listC] at h
  | @cons x xs a ds rx r =>
    cases r with
    | cons _ _ => simp [listC] at h
    | nil =>
      simp only [listC] at h
      split at h
      · rename_i es he
        simp only [Option.some.injEq, Prod.mk.injEq] at h
        obtain ⟨rfl, rfl⟩ := h
        obtain ⟨p, ys, rfl, q, rs⟩ := seqAt_ok ok rx he
        exact ⟨p, ys, rfl, q, fin_cell ok rs f⟩
      · cases h

/-! ### isinstance(x, T), T built-in -/
def tyD (M : Mem) : Dt → Option String
  | .non => some "NoneType"
  | .bl _ => some "bool"
  | .int _ => some "int"
  | .str _ => some "str"
  | .tup _ => some "tuple"
  | .lst _ => some "list"
  | .lsk _ => some "list"
  | .ref i => match M[i]? with
    | some (some (.lst _)) => some "list"
    | _ => none
  | _ => none
def isiF : FM := fun ds M => match ds with
  | [d, .ty T] => pur (((tyD M d).bind fun t => kitB t T).map .bl) M
  | _ => none
theorem ty_ok {w : Ws} {d : Dt} {v : V} {t : String} (ok : Ok K W w) (r : Dv K W w v d) (h : tyD w.M d = some t) : TyX K w.H v (.type t) := by
  cases r with
  | non => simp only [tyD, Option.some.injEq] at h; subst h; exact .base .non
  | bl b => simp only [tyD, Option.some.injEq] at h; subst h; exact .base (.bl b)
  | int i => simp only [tyD, Option.some.injEq] at h; subst h; exact .base (.int i)
  | str x => simp only [tyD, Option.some.injEq] at h; subst h; exact .base (.str x)
  | tup h1 h2 =>
    simp only [tyD, Option.some.injEq] at h
    subst h
    rcases h1 with (h1 | ⟨o, h1⟩) | ⟨o, its, n, hk, hc, _⟩
    · exact .base (.tup h1)
    · exact .fTuple h1
    · exact .kTuple hk hc
  | lst h1 _ h2 => simp only [tyD, Option.some.injEq] at h; subst h; exact .base (.lst h1)
  | lstK h1 h2 =>
    simp only [tyD, Option.some.injEq] at h
    subst h
    rcases h1 with ⟨o, h1⟩ | ⟨o, its, n, hk, hc, _⟩
    · exact .base (.frz h1)
    · exact .kList hk hc
  | ref hr =>
    simp only [tyD] at h
    split at h
    · rename_i ds hc
      cases h
      obtain ⟨xs, hx, q⟩ := ok.cells _ _ _ hr hc
      exact .base (.lst hx)
    · cases h
  | _ => simp [tyD] at h
theorem isi_ok : C1Ok K W (rIsi K) isiF := by
  intro w xs ds d M' Q ok r h f
  unfold isiF at h
  split at h
  · rename_i a T
    replace h := pur_eq h
    obtain ⟨rfl, h⟩ := h
    obtain ⟨b, hb, rfl⟩ := Option.map_eq_some_iff.mp h
    obtain ⟨x, y, rfl, rx, ry⟩ := two_args r
    cases ry
    cases e : tyD w.M a with
    | none => rw [e] at hb; cases hb
    | some t =>
      rw [e] at hb
      exact ⟨x, .ty T, .type t, .type T, b, rfl, .ty T, ty_ok ok rx e, kit_ty hb, fin_here f ok (.bl _)⟩
  · cases h
@[simp] theorem kitB_self (t : String) : kitB t t = some true := by
  unfold kitB
  rw [if_pos (by simp)]
@[simp] theorem kitB_1 : kitB "NoneType" "tuple" = some false := by decide +kernel
@[simp] theorem kitB_2 : kitB "bool" "tuple" = some false := by decide +kernel
@[simp] theorem kitB_3 : kitB "int" "tuple" = some false := by decide +kernel
@[simp] theorem kitB_4 : kitB "str" "tuple" = some false := by decide +kernel
@[simp] theorem kitB_5 : kitB "list" "tuple" = some false := by decide +kernel
@[simp] theorem kitB_6 : kitB "NoneType" "str" = some false := by decide +kernel
@[simp] theorem kitB_7 : kitB "bool" "str" = some false := by decide +kernel
@[simp] theorem kitB_8 : kitB "int" "str" = some false := by decide +kernel
@[simp] theorem kitB_9 : kitB "tuple" "str" = some false := by decide +kernel
@[simp] theorem kitB_10 : kitB "list" "str" = some false := by decide +kernel
@[simp] theorem kitB_11 : kitB "NoneType" "int" = some false := by decide +kernel
@[simp] theorem kitB_12 : kitB "bool" "int" = some true := by decide +kernel
@[simp] theorem kitB_13 : kitB "str" "int" = some false := by decide +kernel
@[simp] theorem kitB_14 : kitB "tuple" "int" = some false := by decide +kernel
@[simp] theorem kitB_15 : kitB "list" "int" = some false := by decide +kernel
@[simp] theorem kitB_16 : kitB "NoneType" "bool" = some false := by decide +kernel
@[simp] theorem kitB_17 : kitB "int" "bool" = some false := by decide +kernel
@[simp] theorem kitB_18 : kitB "str" "bool" = some false := by decide +kernel
@[simp] theorem kitB_19 : kitB "tuple" "bool" = some false := by decide +kernel
@[simp] theorem kitB_20 : kitB "list" "bool" = some false := by decide +kernel
@[simp] theorem kitB_21 : kitB "NoneType" "list" = some false := by decide +kernel
@[simp] theorem kitB_22 : kitB "bool" "list" = some false := by decide +kernel
@[simp] theorem kitB_23 : kitB "int" "list" = some false := by decide +kernel
@[simp] theorem kitB_24 : kitB "str" "list" = some false := by decide +kernel
@[simp] theorem kitB_25 : kitB "tuple" "list" = some false := by decide +kernel
end
end DL
/-! The data layer, part e: dicts whose keys are data of any kind. -/
namespace DL
open PySem PySem.Spec PyProof.Rows L2

section
variable {prog : Program} {w : World} {A : Around} {E : Value → Shared → Prop} {s : Shared}
/-- where a key stands -/
def ixK (n : NestedKey) (ns : List NestedKey) : Option Nat := ns.findIdx? fun m => decide (m = n)
theorem ixK_some {n : NestedKey} {ns : List NestedKey} {i : Nat} (nd : ns.Nodup) (h : ns[i]? = some n) : ixK n ns = some i := by
  unfold ixK
  rw [List.findIdx?_eq_some_iff_getElem]
  obtain ⟨hi, e⟩ := List.getElem?_eq_some_iff.mp h
  refine ⟨hi, by simp [e], fun j hj => ?_⟩
  have hj' : j < ns.length := Nat.lt_trans hj hi
  simp only [decide_eq_true_eq, Bool.not_eq_true, decide_eq_false_iff_not]
  intro e2
  have e3 : ns[j]? = ns[i]? := by rw [List.getElem?_eq_getElem hj', h, e2]
  have := (List.getElem?_inj hj' nd).mp e3
  omega
theorem ixK_none {n : NestedKey} {ns : List NestedKey} (h : ∀ i : Nat, ns[i]? ≠ some n) : ixK n ns = none := by
  unfold ixK
  rw [List.findIdx?_eq_none_iff]
  intro m hm
  simp only [decide_eq_false_iff_not]
  rintro rfl
  obtain ⟨i, hi⟩ := List.mem_iff_getElem?.mp hm
  exact h i hi
/-- the entries of a dict and its keys -/
structure Ents (w : World) (h : Heap) (es : Array DictEntry) (ns : List NestedKey) : Prop where
  sz : es.size = ns.length
  key : ∀ (i : Nat) (e : DictEntry), es[i]? = some e → ∃ n, ns[i]? = some n ∧ NestedIs h n e.key ∧ e.hash = n.hash w
  nd : ns.Nodup
  dp : ∀ n ∈ ns, n.depth ≤ 8
theorem keyPlain {h : Heap} {n : NestedKey} {x : Str} {v : Value} (r : NestedIs h n v) : v.isStr x = decide (n = .text x) := by
  cases r with
  | text y t =>
    by_cases e : y = x
    · subst e; simp [Value.isStr]
    · have e2 : ¬ NestedKey.text y = .text x := fun z => e (NestedKey.text.inj z)
      simp [Value.isStr, e]
  | _ => simp [Value.isStr]
theorem same_key {x y : NestedKey} {a b : Value} {Q : Bool → Shared → Prop} (hx : NestedIs s.heap x a) (hy : NestedIs s.heap y b) (hd : x.depth ≤ 8) (hu : A.units + 8 < cLine) (h : Q (decide (x = y)) s) : wpAny (model prog w) A (eqBool a b) Q E s :=
  eqAt_key x y A s a b hx hy (by omega) _ _ _ _ (by rw [← NestedKey.decide_eq]; exact h)
theorem find_str {d : Addr} {o : Obj} {es : Array DictEntry} {ep : Nat} {ns : List NestedKey} {x : Str} {t : Tok} {Q : Option Nat → Shared → Prop} (hu : A.units + 8 < cLine) (ho : s.heap.get? d = some o) (hd : o.data = .dict es ep) (en : Ents w s.heap es ns)
    (h : Q (ixK (.text x) ns) s) : wpAny (model prog w) A (foundByValue d (.str x t) es x) Q E s := by
  have ei : es.findIdx? (·.key.isStr x) = ixK (.text x) ns := by
    have e1 : es.findIdx? (·.key.isStr x) = es.toList.findIdx? (·.key.isStr x) := by
      obtain ⟨l⟩ := es
      simp
    rw [e1]
    unfold ixK
    have hl : es.toList.length = ns.length := by rw [Array.length_toList]; exact en.sz
    have hk : ∀ (i : Nat) (e : DictEntry), es.toList[i]? = some e → ∃ n, ns[i]? = some n ∧ e.key.isStr x = decide (n = .text x) := fun i e he => by
      obtain ⟨n, h1, h2, _⟩ := en.key i e (by rw [← Array.getElem?_toList]; exact he)
      exact ⟨n, h1, keyPlain h2⟩
    clear h en hd e1
    generalize es.toList = l at hl hk
    induction l generalizing ns with
    | nil =>
      cases ns with
      | nil => rfl
      | cons _ _ => cases hl
    | cons e l ih =>
      cases ns with
      | nil => cases hl
      | cons n ns =>
        obtain ⟨n', h1, h2⟩ := hk 0 e rfl
        simp only [List.getElem?_cons_zero, Option.some.injEq] at h1
        subst h1
        rw [List.findIdx?_cons, List.findIdx?_cons, h2, ih (by simpa using hl) fun i e' he => hk (i + 1) e' (by simpa using he)]
  unfold foundByValue
  rw [ei]
  cases hi : ixK (.text x) ns with
  | none =>
    rw [hi] at h
    exact wpAny_pure h
  | some i =>
    rw [hi] at h
    have hi' := hi
    unfold ixK at hi'
    rw [List.findIdx?_eq_some_iff_getElem] at hi'
    obtain ⟨hlt, hn, _⟩ := hi'
    simp only [decide_eq_true_eq] at hn
    have hlt2 : i < es.size := by rw [en.sz]; exact hlt
    have he : es[i]? = some es[i] := Array.getElem?_eq_getElem hlt2
    dsimp only
    rw [he]
    obtain ⟨n, h1, h2, h3⟩ := en.key i _ he
    have : n = .text x := by
      rw [List.getElem?_eq_getElem hlt] at h1
      cases h1
      exact hn
    subst this
    refine wpAny_bind (wpAny_dictEpoch ho hd (wpAny_bind (same_key h2 (.text x t) (Nat.zero_le _) hu (wpAny_bind (wpAny_dictEpoch ho hd ?_)))))
    simp only [bne_self_eq_false, Bool.false_eq_true, if_false, decide_true, if_true]
    exact wpAny_bind (wpAny_rule (wpAny_pure h))
/-- the places that are looked at -/
theorem places_mem {es : Array DictEntry} {h : Int} {i : Nat} : i ∈ placesWithHash es.size (fun i => es[i]?.map (·.hash)) h ↔ ∃ e, es[i]? = some e ∧ e.hash = h := by
  unfold placesWithHash
  rw [List.mem_filter, List.mem_range]
  constructor
  · rintro ⟨h1, h2⟩
    refine ⟨es[i], Array.getElem?_eq_getElem h1, ?_⟩
    dsimp only at h2
    rw [Array.getElem?_eq_getElem h1] at h2
    simpa using h2
  · rintro ⟨e, h1, h2⟩
    refine ⟨(Array.getElem?_eq_some_iff.mp h1).1, ?_⟩
    dsimp only
    rw [h1]
    simp [h2]
theorem places_nd {es : Array DictEntry} {h : Int} : (placesWithHash es.size (fun i => es[i]?.map (·.hash)) h).Nodup := List.nodup_range.sublist List.filter_sublist
/-- none of the places looked at holds the key: it is nowhere -/
theorem Ents.nowhere {h : Heap} {es : Array DictEntry} {ns : List NestedKey} {n : NestedKey} (en : Ents w h es ns) (no : ∀ i ∈ placesWithHash es.size (fun i => es[i]?.map (·.hash)) (n.hash w), ns[i]? ≠ some n) : ixK n ns = none := by
  refine ixK_none fun i hi => ?_
  have hl : i < es.size := by rw [en.sz]; exact (List.getElem?_eq_some_iff.mp hi).1
  obtain ⟨m, h1, _, h3⟩ := en.key i _ (Array.getElem?_eq_getElem hl)
  rw [hi] at h1
  cases h1
  exact no i (places_mem.mpr ⟨_, Array.getElem?_eq_getElem hl, h3⟩) hi
theorem find_plain {d : Addr} {o : Obj} {es : Array DictEntry} {ep : Nat} {ns : List NestedKey} {n : NestedKey} {u : Value} {Q : Option Nat → Shared → Prop} (hu : A.units + 8 < cLine) (ho : s.heap.get? d = some o) (hd : o.data = .dict es ep) (en : Ents w s.heap es ns) (hk : NestedIs s.heap n u)
    (h : Q (ixK n ns) s) : wpAny (model prog w) A (dictWalkPlain d u (n.hash w) es (placesWithHash es.size (fun i => es[i]?.map (·.hash)) (n.hash w))) Q E s := by
  generalize hP : placesWithHash es.size (fun i => es[i]?.map (·.hash)) (n.hash w) = P
  have hm : ∀ i ∈ P, ∃ e, es[i]? = some e ∧ e.hash = n.hash w := fun i hi => places_mem.mp (hP ▸ hi)
  have hno : (∀ i ∈ P, ns[i]? ≠ some n) → ixK n ns = none := fun q => en.nowhere fun i hi => q i (hP ▸ hi)
  clear hP
  unfold dictWalkPlain
  refine wpAny_bind ?_
  refine wpAny_forIn_list _ (fun left r s' => s' = s ∧ r = (none, ()) ∧ ∃ seen, P = seen ++ left ∧ ∀ i ∈ seen, ns[i]? ≠ some n) _ ?_ ?_ _ _ ⟨rfl, rfl, [], rfl, fun _ hi => by cases hi⟩
  · rintro i left r s' ⟨rfl, rfl, seen, rfl, hs⟩
    obtain ⟨e, he, hh⟩ := hm i (by simp)
    obtain ⟨m, h1, h2, h3⟩ := en.key i e he
    have next : m ≠ n → ∀ j ∈ seen ++ [i], ns[j]? ≠ some n := fun hne j hj => by
      rcases List.mem_append.mp hj with hj | hj
      · exact hs j hj
      · have : j = i := by simpa using hj
        subst this
        rw [h1]
        exact fun z => hne (Option.some.inj z)
    rw [he]
    dsimp only
    rw [if_pos (by simp [hh])]
    refine wpAny_bind (wpAny_dictEpoch ho hd (wpAny_bind (same_key h2 hk (en.dp m (List.mem_of_getElem? h1)) hu (wpAny_bind (wpAny_dictEpoch ho hd ?_)))))
    simp only [bne_self_eq_false, Bool.false_eq_true, if_false]
    by_cases hmn : m = n
    · subst hmn
      simp only [decide_true, if_true]
      rw [ixK_some en.nd h1] at h
      exact wpAny_bind (wpAny_rule (wpAny_pure (wpAny_pure h)))
    · simp only [hmn, decide_false, Bool.false_eq_true, if_false]
      exact wpAny_bind (wpAny_rule (wpAny_pure ⟨rfl, rfl, seen ++ [i], by simp, next hmn⟩))
  · rintro r s' ⟨rfl, rfl, seen, hp, hs⟩
    rw [List.append_nil] at hp
    subst hp
    rw [hno hs] at h
    exact wpAny_pure h
theorem quiet_all {P : List Value} {ns : List NestedKey} (h : ∀ v ∈ P, ∃ n, NestedIs s.heap n v ∧ n.depth ≤ 8) {Q : Bool → Shared → Prop} {u : Value} {n : NestedKey} (hk : NestedIs s.heap n u) (hd : n.depth ≤ 8) (q : Q false s) : wpAny (model prog w) A (tableMayTell u P) Q E s := by
  unfold tableMayTell
  split
  · exact wpAny_pure q
  · refine wpAny_bind (quiet_key n u 8 s hk hd A E _ ?_)
    simp only [Bool.not_true, Bool.false_eq_true, if_false]
    refine wpAny_bind ?_
    refine wpAny_forIn_list _ (fun left r s' => s' = s ∧ r = (none, ()) ∧ ∀ v ∈ left, ∃ n, NestedIs s.heap n v ∧ n.depth ≤ 8) _ ?_ ?_ _ _ ⟨rfl, rfl, h⟩
    · rintro v left r s' ⟨rfl, rfl, hv⟩
      obtain ⟨m, h1, h2⟩ := hv v (by simp)
      refine wpAny_bind (quiet_key m v 8 s' h1 h2 A E _ ?_)
      simp only [Bool.not_true, Bool.false_eq_true, if_false]
      exact wpAny_pure ⟨rfl, rfl, fun x hx => hv x (by simp [hx])⟩
    · rintro r s' ⟨rfl, rfl, _⟩
      exact wpAny_pure q
/-- THE SEARCH -/
theorem find_any {d : Addr} {o : Obj} {es : Array DictEntry} {ep : Nat} {ns : List NestedKey} {n : NestedKey} {u : Value} {Q : Option Nat → Shared → Prop} (hu : A.units + 8 < cLine) (ho : s.heap.get? d = some o) (hd : o.data = .dict es ep) (en : Ents w s.heap es ns) (hk : NestedIs s.heap n u) (hdp : n.depth ≤ 8)
    (h : Q (ixK n ns) s) : wpAny (model prog w) A (dictFind d u (n.hash w)) Q E s := by
  unfold dictFind
  try with_reducible refine wpAny_holding ?_
  refine wpAny_bind (wpAny_dictEntries ho hd ?_)
  by_cases hs : ∃ x t, u = .str x t ∧ (es.all fun e => isExactStrKey e.key) = true
  · obtain ⟨x, t, rfl, ha⟩ := hs
    cases hk
    dsimp only
    rw [if_pos ha]
    exact find_str hu ho hd en h
  · generalize hP : placesWithHash es.size (fun i => es[i]?.map (·.hash)) (n.hash w) = P
    have fp : (u :: P.filterMap fun i => es[i]?.map (·.key)).all carriedByValue = true → wpAny (model prog w) A (dictWalkPlain d u (n.hash w) es P) Q E s := fun _ => by
      rw [← hP]
      exact find_plain hu ho hd en hk h
    have hm : ∀ i ∈ P, ∃ e, es[i]? = some e ∧ e.hash = n.hash w := fun i hi => places_mem.mp (hP ▸ hi)
    have hno : (∀ i ∈ P, ns[i]? ≠ some n) → ixK n ns = none := fun q => en.nowhere fun i hi => q i (hP ▸ hi)
    have hnd : P.Nodup := hP ▸ places_nd
    have hq : ∀ v ∈ P.filterMap (fun i => es[i]?.map (·.key)), ∃ m, NestedIs s.heap m v ∧ m.depth ≤ 8 := fun v hv => by
      obtain ⟨i, _, hi⟩ := List.mem_filterMap.mp hv
      cases he : es[i]? with
      | none => rw [he] at hi; cases hi
      | some e =>
        rw [he] at hi
        cases hi
        obtain ⟨m, h1, h2, _⟩ := en.key i e he
        exact ⟨m, h2, en.dp m (List.mem_of_getElem? h1)⟩
    have hany : ¬ (es.any fun e => e.key == u && e.hash != n.hash w) = true := by
      rw [← Array.any_toList, List.any_eq_true]
      rintro ⟨e, he, hc⟩
      simp only [Bool.and_eq_true, beq_iff_eq, bne_iff_ne, ne_eq] at hc
      obtain ⟨i, hi⟩ := List.mem_iff_getElem?.mp he
      rw [Array.getElem?_toList] at hi
      obtain ⟨m, _, h2, h3⟩ := en.key i e hi
      rw [hc.1] at h2
      rw [NestedIs.inj _ _ _ h2 hk] at h3
      exact hc.2 h3
    clear hP
    by_cases hc : (u :: P.filterMap fun i => es[i]?.map (·.key)).all carriedByValue = true
    · cases u <;> dsimp only <;> (first | rw [if_neg (fun z => hs ⟨_, _, rfl, z⟩)] | skip) <;> (
        rw [if_pos hc]
        exact fp hc)
    by_cases h1 : ((P.filterMap fun i => es[i]?.map (·.key)) == [u]) = true <;> cases u <;> dsimp only <;> (first | rw [if_neg (fun z => hs ⟨_, _, rfl, z⟩)] | skip) <;> (
      rw [if_neg hc]
      first | rw [if_neg hany] | skip
      (first | rw [if_pos h1] | rw [if_neg h1]) <;> (first | refine wpAny_bind (wpAny_pure ?_) | refine wpAny_bind (quiet_all (ns := ns) hq hk hdp ?_)) <;> (
        simp only [Bool.false_and, Bool.false_eq_true, if_false]
        refine wpAny_bind ?_
        refine wpAny_forIn_list _ (fun left r s' => s' = s ∧ r.1 = none ∧ ∃ seen, P = seen ++ left ∧ ((r.2 = none ∧ ∀ i ∈ seen, ns[i]? ≠ some n) ∨ ∃ i ∈ seen, r.2 = some i ∧ ns[i]? = some n)) _ ?_ ?_ _ _ ⟨rfl, rfl, [], rfl, .inl ⟨rfl, fun _ hi => by cases hi⟩⟩
        · rintro i left ⟨r1, r2⟩ s' ⟨rfl, hr1, seen, rfl, hs2⟩
          simp only at hr1 hs2
          subst hr1
          obtain ⟨e, he, hh⟩ := hm i (by simp)
          obtain ⟨m, k1, k2, k3⟩ := en.key i e he
          rw [he]
          dsimp only
          rw [if_pos (by simp [hh])]
          refine wpAny_bind (wpAny_dictEpoch ho hd (wpAny_bind (same_key k2 hk (en.dp m (List.mem_of_getElem? k1)) hu (wpAny_bind (wpAny_dictEpoch ho hd ?_)))))
          simp only [bne_self_eq_false, Bool.false_eq_true, if_false]
          by_cases hmn : m = n
          · subst hmn
            simp only [decide_true, if_true]
            have hit : r2 = none := by
              rcases hs2 with ⟨z, _⟩ | ⟨j, hj, _, hjn⟩
              · exact z
              · exfalso
                have hjl : j < ns.length := (List.getElem?_eq_some_iff.mp hjn).1
                have e1 : j = i := (List.getElem?_inj hjl en.nd).mp (hjn.trans k1.symm)
                subst e1
                rw [List.nodup_append] at hnd
                exact hnd.2.2 j hj j (by simp) rfl
            subst hit
            simp only [Option.isSome_none, Bool.false_eq_true, if_false]
            refine wpAny_bind (wpAny_rule ?_)
            split
            · refine wpAny_pure (wpAny_pure ?_)
              rw [ixK_some en.nd k1] at h
              exact h
            · exact wpAny_pure ⟨rfl, rfl, seen ++ [i], by simp, .inr ⟨i, by simp, rfl, k1⟩⟩
          · simp only [hmn, decide_false, Bool.false_eq_true, if_false]
            refine wpAny_bind (wpAny_rule (wpAny_pure ⟨rfl, rfl, seen ++ [i], by simp, ?_⟩))
            rcases hs2 with ⟨z, hno2⟩ | ⟨j, hj, z, hjn⟩
            · refine .inl ⟨z, fun j hj => ?_⟩
              rcases List.mem_append.mp hj with hj | hj
              · exact hno2 j hj
              · have : j = i := by simpa using hj
                subst this
                rw [k1]
                exact fun y => hmn (Option.some.inj y)
            · exact .inr ⟨j, by simp [hj], z, hjn⟩
        · rintro ⟨r1, r2⟩ s' ⟨rfl, hr1, seen, hp, hs2⟩
          simp only at hr1 hs2
          rw [List.append_nil] at hp
          subst hp
          subst hr1
          refine wpAny_pure ?_
          rcases hs2 with ⟨z, hno2⟩ | ⟨j, hj, z, hjn⟩
          · rw [hno hno2] at h
            rw [z]
            exact h
          · rw [ixK_some en.nd hjn] at h
            rw [z]
            exact h))

/-- a dict at d -/
structure DAt (w : World) (h : Heap) (d : Addr) (o : Obj) (es : Array DictEntry) (ep : Nat) (ns : List NestedKey) : Prop where
  ho : h.get? d = some o
  ex : o.ExactDict
  hd : o.data = .dict es ep
  en : Ents w h es ns
  sm : (d == sysModules) = false
variable {d : Addr} {o : Obj} {es : Array DictEntry} {ep : Nat} {ns : List NestedKey} {n : NestedKey} {u : Value}
theorem DAt.ty (D : DAt w s.heap d o es ep ns) : s.TypeIs (.ref d) "dict" := ⟨o, D.ho, D.ex.1⟩
def valAtK (n : NestedKey) (ns : List NestedKey) (es : Array DictEntry) : Option Value := (ixK n ns).bind fun i => es[i]?.map (·.val)
theorem get_core {Q : Option Value → Shared → Prop} (D : DAt w s.heap d o es ep ns) (hu : A.units + 8 < cLine) (hk : NestedIs s.heap n u) (hdp : n.depth ≤ 8) (h : Q (valAtK n ns es) { s with toks := s.toks + n.draws }) :
    wpAny (model prog w) A (dictGet d u) Q E s := by
  unfold dictGet
  try with_reducible refine wpAny_holding ?_
  refine wpAny_bind (pyHash_key n u A s _ hk (by omega) (wpAny_bind (find_any (s := { s with toks := s.toks + n.draws }) hu D.ho D.hd D.en hk hdp ?_)))
  unfold valAtK at h
  cases e : ixK n ns with
  | none =>
    rw [e] at h
    exact wpAny_pure h
  | some i =>
    rw [e] at h
    exact wpAny_bind (wpAny_dictEntries (s := { s with toks := s.toks + n.draws }) D.ho D.hd (wpAny_pure h))
theorem v_contains {Q : Bool → Shared → Prop} (D : DAt w s.heap d o es ep ns) (hu : A.units + 9 < cLine) (hk : NestedIs s.heap n u) (hdp : n.depth ≤ 8) (h : Q (ixK n ns).isSome { s with toks := s.toks + n.draws }) :
    wpAny (model prog w) A (contains (.ref d) u) Q E s := by
  refine wpAny_contains_slot D.ty F.slot_dict_contains ?_
  refine call_meetsIn F.slot_dict_contains D.ty F.entry_dict_contains (F.args_dict_contains_2 _ _) (S := fun A' R s' => A' = A ∧ s' = s ∧ R (.ok (.ret (.bool (ixK n ns).isSome))) { s with toks := s.toks + n.draws }) (.of_wp fun A' R s' hS => ?_) ⟨rfl, rfl, wpAny_truthy_bool h⟩
  obtain ⟨rfl, rfl, hq⟩ := hS
  show wpAny _ _ (dictGet d u >>= _) _ _ s'
  refine wpAny_bind (get_core D (by simpa only [Around.in1_units] using hu) hk hdp ?_)
  unfold valAtK
  cases e : ixK n ns with
  | some i =>
    rw [e] at hq
    have hi : i < es.size := by
      rw [D.en.sz]
      unfold ixK at e
      rw [List.findIdx?_eq_some_iff_getElem] at e
      exact e.1
    rw [Option.bind_some, Array.getElem?_eq_getElem hi]
    exact wpAny_pure ⟨_, rfl, hq⟩
  | none =>
    rw [e] at hq
    show wpAny _ _ (Builtin.Dict.pendingKey? d u >>= _) _ _ _
    exact wpAny_bind (wpAny_pendingKey_other D.sm (wpAny_pure ⟨_, rfl, hq⟩))
theorem v_in {Q : Value → Shared → Prop} (D : DAt w s.heap d o es ep ns) (hu : A.units + 9 < cLine) (hk : NestedIs s.heap n u) (hdp : n.depth ≤ 8) (h : Q (.bool (ixK n ns).isSome) { s with toks := s.toks + n.draws }) :
    wpAny (model prog w) A (compareOp .In u (.ref d)) Q E s := by
  show wpAny _ _ (do return .bool (← contains (.ref d) u)) Q E s
  exact wpAny_bind (v_contains D hu hk hdp (wpAny_pure h))
theorem v_notIn {Q : Value → Shared → Prop} (D : DAt w s.heap d o es ep ns) (hu : A.units + 9 < cLine) (hk : NestedIs s.heap n u) (hdp : n.depth ≤ 8) (h : Q (.bool (!(ixK n ns).isSome)) { s with toks := s.toks + n.draws }) :
    wpAny (model prog w) A (compareOp .NotIn u (.ref d)) Q E s := by
  show wpAny _ _ (do return .bool (!(← contains (.ref d) u))) Q E s
  exact wpAny_bind (v_contains D hu hk hdp (wpAny_pure h))
theorem v_item {v : Value} {Q : Value → Shared → Prop} (D : DAt w s.heap d o es ep ns) (hu : A.units + 9 < cLine) (hk : NestedIs s.heap n u) (hdp : n.depth ≤ 8) (hv : valAtK n ns es = some v) (h : Q v { s with toks := s.toks + n.draws }) :
    wpAny (model prog w) A (getItem (.ref d) u) Q E s := by
  unfold getItem
  try with_reducible refine wpAny_holding ?_
  refine wpAny_bind (wpAny_sequenceKey D.ty (by decide) ?_)
  refine wpAny_bind (wpAny_callSpecial?_slot (name := Str.ofString "__getitem__") D.ty F.slot_dict_getitem
    (wpAny_call_entry F.slot_dict_getitem D.ty F.entry_dict_getitem ?_ (F.args_dict_getitem_2 _ _)))
  show wpAny _ _ (dictGet d u >>= _) _ _ s
  refine wpAny_bind (get_core D (by simpa only [Around.in1_units] using hu) hk hdp ?_)
  rw [hv]
  exact wpAny_pure ⟨v, rfl, wpAny_pure h⟩
theorem v_get1 {Q : Value → Shared → Prop} (D : DAt w s.heap d o es ep ns) (hu : A.units + 9 < cLine) (hk : NestedIs s.heap n u) (hdp : n.depth ≤ 8) (h : Q ((valAtK n ns es).getD .none) { s with toks := s.toks + n.draws }) :
    wpAny (model prog w) A (call (.builtin "dict.get") [.ref d, u]) Q E s := by
  refine call_meetsIn F.slot_dict_get D.ty F.entry_dict_get (F.args_dict_get_2 _ _) (S := fun A' R s' => A' = A ∧ s' = s ∧ R (.ok (.ret ((valAtK n ns es).getD .none))) { s with toks := s.toks + n.draws }) (.of_wp fun A' R s' hS => ?_) ⟨rfl, rfl, h⟩
  obtain ⟨rfl, rfl, hq⟩ := hS
  show wpAny _ _ (dictGet d u >>= _) _ _ s'
  refine wpAny_bind (get_core D (by simpa only [Around.in1_units] using hu) hk hdp ?_)
  cases e : valAtK n ns es with
  | some v =>
    rw [e] at hq
    exact wpAny_pure ⟨v, rfl, hq⟩
  | none =>
    rw [e] at hq
    show wpAny _ _ (Builtin.Dict.missed d u >>= _) _ _ _
    exact wpAny_bind (wpAny_missed_other D.sm (wpAny_pure ⟨.none, rfl, hq⟩))
theorem v_get2 {x : Value} {Q : Value → Shared → Prop} (D : DAt w s.heap d o es ep ns) (hu : A.units + 9 < cLine) (hk : NestedIs s.heap n u) (hdp : n.depth ≤ 8) (h : Q ((valAtK n ns es).getD x) { s with toks := s.toks + n.draws }) :
    wpAny (model prog w) A (call (.builtin "dict.get") [.ref d, u, x]) Q E s := by
  refine call_meetsIn F.slot_dict_get D.ty F.entry_dict_get (F.args_dict_get_3 _ _ _) (S := fun A' R s' => A' = A ∧ s' = s ∧ R (.ok (.ret ((valAtK n ns es).getD x))) { s with toks := s.toks + n.draws }) (.of_wp fun A' R s' hS => ?_) ⟨rfl, rfl, h⟩
  obtain ⟨rfl, rfl, hq⟩ := hS
  show wpAny _ _ (dictGet d u >>= _) _ _ s'
  refine wpAny_bind (get_core D (by simpa only [Around.in1_units] using hu) hk hdp ?_)
  cases e : valAtK n ns es with
  | some v =>
    rw [e] at hq
    exact wpAny_pure ⟨v, rfl, hq⟩
  | none =>
    rw [e] at hq
    show wpAny _ _ (Builtin.Dict.missed d u >>= _) _ _ _
    exact wpAny_bind (wpAny_missed_other D.sm (wpAny_pure ⟨x, rfl, hq⟩))
/-- the entries behind d[k] = v -/
def putEs (n : NestedKey) (ns : List NestedKey) (w : World) (u v : Value) (es : Array DictEntry) : Array DictEntry := match ixK n ns with
  | some j => es.modify j fun e => { e with val := v }
  | none => es.push ⟨n.hash w, u, v⟩
structure Put (w : World) (h h' : Heap) (d : Addr) (o' : Obj) (es' : Array DictEntry) (ep' : Nat) : Prop where
  same : Heap.SameBut d h h'
  ho : h'.get? d = some o'
  ex : o'.ExactDict
  hd : o'.data = .dict es' ep'
theorem set_core {v : Value} {Q : Unit → Shared → Prop} (D : DAt w s.heap d o es ep ns) (hu : A.units + 8 < cLine) (hk : NestedIs s.heap n u) (hdp : n.depth ≤ 8) (hz : es.size ≤ sizeLine)
    (h : ∀ h' o' ep', Put w s.heap h' d o' (putEs n ns w u v es) ep' → Q () { s with heap := h', toks := s.toks + n.draws }) : wpAny (model prog w) A (dictSet d u v) Q E s := by
  unfold dictSet
  try with_reducible refine wpAny_holding ?_
  refine wpAny_bind (pyHash_key n u A s _ hk (by omega) ?_)
  unfold dictSetHashed
  try with_reducible refine wpAny_holding ?_
  refine wpAny_bind (find_any (s := { s with toks := s.toks + n.draws }) hu D.ho D.hd D.en hk hdp ?_)
  cases e : ixK n ns with
  | none =>
    refine wpAny_bind (wpAny_rule (wpAny_updateDictKeys (hz := hz) (s := { s with toks := s.toks + n.draws }) D.ho D.hd (h _ _ (ep + 1) ⟨Heap.SameBut.update .., Heap.get?_update_self _ D.ho (Obj.isFreed_of_dict (Obj.data_mapDictKeys D.hd _)), D.ex.mapDictKeys _, ?_⟩)))
    rw [Obj.data_mapDictKeys D.hd _]
    unfold putEs
    rw [e]
  | some j =>
    refine wpAny_bind (wpAny_rule (wpAny_bind (wpAny_updateDict (s := { s with toks := s.toks + n.draws }) D.ho D.hd (wpAny_point (h _ _ ep ⟨Heap.SameBut.update .., Heap.get?_update_self _ D.ho (Obj.isFreed_of_dict (Obj.data_mapDict D.hd _)), D.ex.mapDict _, ?_⟩)))))
    rw [Obj.data_mapDict D.hd _]
    unfold putEs
    rw [e]
theorem v_set {v : Value} {Q : Unit → Shared → Prop} (D : DAt w s.heap d o es ep ns) (hu : A.units + 9 < cLine) (hk : NestedIs s.heap n u) (hdp : n.depth ≤ 8) (hz : es.size ≤ sizeLine)
    (h : ∀ h' o' ep', Put w s.heap h' d o' (putEs n ns w u v es) ep' → Q () { s with heap := h', toks := s.toks + n.draws }) : wpAny (model prog w) A (setItem (.ref d) u v) Q E s := by
  unfold setItem
  try with_reducible refine wpAny_holding ?_
  refine wpAny_bind (wpAny_sequenceKey D.ty (by decide) ?_)
  refine wpAny_bind (wpAny_callSpecial?_slot (name := Str.ofString "__setitem__") D.ty F.slot_dict_setitem
    (wpAny_call_entry F.slot_dict_setitem D.ty F.entry_dict_setitem ?_ (F.args_dict_setitem_3 _ _ _)))
  show wpAny _ _ (Builtin.Dict.notOrdered "__setitem__" ⟨[.ref d, u, v], []⟩ >>= _) _ _ s
  refine wpAny_bind (wpAny_notOrdered_dict D.ty ?_)
  show wpAny _ _ (dictSet d u v >>= _) _ _ s
  exact wpAny_bind (set_core D (by simpa only [Around.in1_units] using hu) hk hdp hz fun h' o' ep' p => wpAny_pure ⟨.none, rfl, wpAny_pure (h h' o' ep' p)⟩)
theorem v_setdefault {v : Value} {Q : Value → Shared → Prop} (D : DAt w s.heap d o es ep ns) (hu : A.units + 9 < cLine) (hk : NestedIs s.heap n u) (hdp : n.depth ≤ 8) (hz : es.size ≤ sizeLine)
    (h1 : ∀ x, valAtK n ns es = some x → Q x { s with toks := s.toks + n.draws }) (h2 : ixK n ns = none → ∀ h' o' ep', Put w s.heap h' d o' (putEs n ns w u v es) ep' → Q v { s with heap := h', toks := s.toks + n.draws }) :
    wpAny (model prog w) A (call (.builtin "dict.setdefault") [.ref d, u, v]) Q E s := by
  refine call_meetsIn F.slot_dict_setdefault D.ty F.entry_dict_setdefault (F.args_dict_setdefault_3 _ _ _) (S := fun A' R s' => A' = A ∧ s' = s ∧ (∀ x, valAtK n ns es = some x → R (.ok (.ret x)) { s with toks := s.toks + n.draws }) ∧
    (ixK n ns = none → ∀ h' o' ep', Put w s.heap h' d o' (putEs n ns w u v es) ep' → R (.ok (.ret v)) { s with heap := h', toks := s.toks + n.draws })) (.of_wp fun A' R s' hS => ?_) ⟨rfl, rfl, h1, h2⟩
  obtain ⟨rfl, rfl, q1, q2⟩ := hS
  unfold Builtin.«dict.setdefault»
  refine wpAny_bind ?_
  unfold Builtin.Dict.keyAndDefault
  refine wpAny_bind (wpAny_notOrdered_dict D.ty ?_)
  show wpAny _ _ (pure (d, u, some v)) _ _ s'
  refine wpAny_pure ?_
  show wpAny _ _ (if (d == sysModules) = true then _ else (dictSetDefault d u v >>= _)) _ _ s'
  rw [if_neg (by rw [D.sm]; exact Bool.false_ne_true)]
  refine wpAny_bind ?_
  unfold dictSetDefault
  try with_reducible refine wpAny_holding ?_
  have hu' : A'.in1.units + 8 < cLine := by simpa only [Around.in1_units] using hu
  refine wpAny_bind (pyHash_key n u _ s' _ hk (by omega) ?_)
  refine wpAny_bind (find_any (s := { s' with toks := s'.toks + n.draws }) hu' D.ho D.hd D.en hk hdp ?_)
  unfold valAtK at q1
  cases e : ixK n ns with
  | none =>
    refine wpAny_bind (wpAny_rule (wpAny_bind (wpAny_updateDictKeys (hz := hz) (s := { s' with toks := s'.toks + n.draws }) D.ho D.hd (wpAny_pure (wpAny_pure ⟨v, rfl, q2 e _ _ (ep + 1) ⟨Heap.SameBut.update .., Heap.get?_update_self _ D.ho (Obj.isFreed_of_dict (Obj.data_mapDictKeys D.hd _)), D.ex.mapDictKeys _, ?_⟩⟩)))))
    rw [Obj.data_mapDictKeys D.hd _]
    unfold putEs
    rw [e]
  | some j =>
    have hj : j < es.size := by
      rw [D.en.sz]
      unfold ixK at e
      rw [List.findIdx?_eq_some_iff_getElem] at e
      exact e.1
    rw [e] at q1
    refine wpAny_bind (wpAny_dictEntries (s := { s' with toks := s'.toks + n.draws }) D.ho D.hd ?_)
    rw [Array.getElem?_eq_getElem hj]
    refine wpAny_bind (wpAny_rule (wpAny_pure (wpAny_pure ⟨_, rfl, q1 _ ?_⟩)))
    rw [Option.bind_some, Array.getElem?_eq_getElem hj]
    rfl
end
end DL
/-! The data layer, part f: dicts as rules. -/
namespace DL
open PySem PySem.Spec PyProof.Rows L2

/-- a dict's keys and values, as data -/
def dictAt (M : Mem) : Dt → Option (List Dt × List Dt)
  | .dic ks vs => some (ks, vs)
  | .ref i => match M[i]? with
    | some (some (.dic ks vs)) => some (ks, vs)
    | _ => none
  | _ => none
def keyN (k : Dt) : Option NestedKey := (toKey k).bind fun n => if n.depth ≤ 8 then some n else none
def ixD' (ks : List Dt) (n : NestedKey) : Option Nat := (toKeys ks).bind (ixK n)
def findD (ks vs : List Dt) (n : NestedKey) : Option Dt := (ixD' ks n).bind fun i => vs[i]?
def putD (ks vs : List Dt) (n : NestedKey) (k v : Dt) : List Dt × List Dt := match ixD' ks n with
  | some j => (ks, vs.set j v)
  | none => (ks ++ [k], vs ++ [v])
theorem keyN_some {k : Dt} {n : NestedKey} (h : keyN k = some n) : toKey k = some n ∧ n.depth ≤ 8 := by
  unfold keyN at h
  cases e : toKey k with
  | none => rw [e] at h; cases h
  | some m =>
    rw [e, Option.bind_some] at h
    split at h
    · rename_i hd
      cases h
      exact ⟨rfl, hd⟩
    · cases h
theorem toKeys_cons {d : Dt} {ds : List Dt} {ks : List NestedKey} (h : toKeys (d :: ds) = some ks) : ∃ k r, toKey d = some k ∧ toKeys ds = some r ∧ ks = k :: r := by
  rw [toKeys] at h
  cases h1 : toKey d with
  | none => simp [h1] at h
  | some k =>
    cases h2 : toKeys ds with
    | none => simp [h1, h2] at h
    | some r =>
      simp only [h1, h2, Option.some.injEq] at h
      exact ⟨k, r, rfl, rfl, h.symm⟩
theorem toKeys_append : ∀ {as bs : List Dt} {ns ms : List NestedKey}, toKeys as = some ns → toKeys bs = some ms → toKeys (as ++ bs) = some (ns ++ ms)
  | [], _, _, _, h, q => by simp [toKeys] at h; subst h; exact q
  | a :: as, bs, ns, ms, h, q => by
    obtain ⟨k, r, h1, h2, rfl⟩ := toKeys_cons h
    rw [List.cons_append, toKeys, h1, toKeys_append h2 q]
    rfl
theorem toKeys_one {d : Dt} {n : NestedKey} (h : toKey d = some n) : toKeys [d] = some [n] := by rw [toKeys, h, toKeys]
section
variable {X : Cx} {pins : List (Addr × Obj)} {σ : L2.St} {s : Shared} {w : Ws}
mutual
theorem Dv.nested (I : Inv X pins σ w.H s) : ∀ (d : Dt) (v : V) (n : NestedKey) (u : Value), Dv X.K X.w w v d → toKey d = some n → RelV v u → NestedIs s.heap n u
  | .non, _, _, _, h, e, r => by cases h; simp [toKey] at e; subst e; cases r; exact .none
  | .bl b, _, _, _, h, e, r => by cases h; simp [toKey] at e; subst e; cases r; exact .bool rfl
  | .int i, _, _, _, h, e, r => by cases h; simp [toKey] at e; subst e; obtain ⟨t, rfl⟩ := r; exact .int _ _
  | .str x, _, _, _, h, e, r => by cases h; simp [toKey] at e; subst e; obtain ⟨t, rfl⟩ := r; exact .text _ _
  | .tup ds, _, n, _, h, e, r => by
    rw [toKey, Option.map_eq_some_iff] at e
    obtain ⟨ns, e, rfl⟩ := e
    cases h with
    | tup h1 h2 =>
      cases r
      obtain ⟨its, rv, ⟨o, ho, hc, k, hd⟩, _⟩ := I.tuple h1
      exact .tup ho hc hd (by simpa using Dvs.nested I ds _ ns its h2 e rv)
  | .lst _, _, _, _, _, e, _ => by simp [toKey] at e
  | .lsk _, _, _, _, _, e, _ => by simp [toKey] at e
  | .adr _, _, _, _, _, e, _ => by simp [toKey] at e
  | .ty _, _, _, _, _, e, _ => by simp [toKey] at e
  | .ref _, _, _, _, _, e, _ => by simp [toKey] at e
  | .dic _ _, _, _, _, _, e, _ => by simp [toKey] at e
  | .obj _ _ _, _, _, _, _, e, _ => by simp [toKey] at e
  | .sett _, _, _, _, _, e, _ => by simp [toKey] at e
theorem Dvs.nested (I : Inv X pins σ w.H s) : ∀ (ds : List Dt) (vs : List V) (ns : List NestedKey) (us : List Value), Dvs X.K X.w w vs ds → toKeys ds = some ns → Vals vs us → NestedAll s.heap ns us
  | [], _, _, _, h, e, r => by cases h; simp [toKeys] at e; subst e; cases r; exact .nil
  | d :: ds, _, ns, _, h, e, r => by
    obtain ⟨k, ks, e1, e2, rfl⟩ := toKeys_cons e
    cases h with
    | cons h1 h2 =>
      cases r with
      | cons r1 r2 => exact .cons (Dv.nested I d _ k _ h1 e1 r1) (Dvs.nested I ds _ ks _ h2 e2 r2)
end
theorem NestedAll.get {h : Heap} : ∀ {ns : List NestedKey} {us : List Value} {i : Nat} {u : Value}, NestedAll h ns us → us[i]? = some u → ∃ n, ns[i]? = some n ∧ NestedIs h n u
  | _, _, _, _, .nil, e => by simp at e
  | _, _, 0, _, .cons r _, e => by simp at e; subst e; exact ⟨_, rfl, r⟩
  | _, _, i + 1, _, .cons _ t, e => by
    obtain ⟨n, h1, h2⟩ := NestedAll.get (i := i) t (by simpa using e)
    exact ⟨n, by simpa using h1, h2⟩
/-- the dict's object, wherever it stands -/
structure DRep (X : Cx) (w : Ws) (a : Addr) (ks vs : List Dt) (o : Obj) (es : Array DictEntry) (ep : Nat) (kx vx : List V) : Prop where
  at' : w.H a = some (RawIs a o) ∨ X.K.lookup a = some o
  raw : RawD a o es ep kx vx
  key : KeysAre X.w ks es
  dk : Dvs X.K X.w w kx ks
  dv : Dvs X.K X.w w vx vs
theorem dict_rep {d : Dt} {v : V} {ks vs : List Dt} (ok : Ok X.K X.w w) (r : Dv X.K X.w w v d) (h : dictAt w.M d = some (ks, vs)) : ∃ a o es ep kx vx, v = .ref a ∧ DRep X w a ks vs o es ep kx vx := by
  cases r with
  | dic h1 n r k h2 h3 =>
    simp only [dictAt, Option.some.injEq, Prod.mk.injEq] at h
    obtain ⟨rfl, rfl⟩ := h
    exact ⟨_, _, _, _, _, _, rfl, .inl h1, r, k, h2, h3⟩
  | dicK h1 r k h2 h3 =>
    simp only [dictAt, Option.some.injEq, Prod.mk.injEq] at h
    obtain ⟨rfl, rfl⟩ := h
    exact ⟨_, _, _, _, _, _, rfl, .inr h1, r, k, h2, h3⟩
  | ref hr =>
    simp only [dictAt] at h
    split at h
    · rename_i ks' vs' hc
      simp only [Option.some.injEq, Prod.mk.injEq] at h
      obtain ⟨rfl, rfl⟩ := h
      obtain ⟨o, es, ep, kx, vx, h1, r, k, h2, h3⟩ := ok.cells _ _ _ hr hc
      exact ⟨_, _, _, _, _, _, rfl, .inl h1, r, k, h2, h3⟩
    · cases h
  | _ => simp [dictAt] at h
theorem DRep.dat {a : Addr} {ks vs : List Dt} {o : Obj} {es : Array DictEntry} {ep : Nat} {kx vx : List V} (D : DRep X w a ks vs o es ep kx vx) (I : Inv X pins σ w.H s) : ∃ ns, toKeys ks = some ns ∧ DAt X.w s.heap a o es ep ns := by
  obtain ⟨ns, h1, h2, h3, h4⟩ := D.key
  refine ⟨ns, h1, ?_, D.raw.ex, D.raw.dt, ⟨?_, fun i e he => ?_, h2, h3⟩, D.raw.sm⟩
  · rcases D.at' with h | h
    · exact (show ObjOk X.prog X.w w.H s.heap a (RawIs a o) from I.hok a _ h).1
    · exact I.kIn a o h
  · have := congrArg List.length h4
    simpa using this
  · have hn := Dvs.nested I ks kx ns _ D.dk h1 D.raw.ky
    have hl : es.toList[i]? = some e := by rw [Array.getElem?_toList]; exact he
    obtain ⟨n, k1, k2⟩ := NestedAll.get (i := i) (u := e.key) hn (by rw [List.getElem?_map, hl]; rfl)
    refine ⟨n, k1, k2, ?_⟩
    have q := congrArg (fun l => l[i]?) h4
    simp only [List.getElem?_map, hl, k1, Option.map_some, Option.some.injEq] at q
    exact q
/-- a value in the dict -/
theorem DRep.val {a : Addr} {ks vs : List Dt} {o : Obj} {es : Array DictEntry} {ep : Nat} {kx vx : List V} (D : DRep X w a ks vs o es ep kx vx) {ns : List NestedKey} (hns : toKeys ks = some ns) {n : NestedKey} :
    (∀ d, findD ks vs n = some d → ∃ u v, valAtK n ns es = some u ∧ RelV v u ∧ Dv X.K X.w w v d) ∧ (findD ks vs n = none → valAtK n ns es = none) := by
  have e : ixD' ks n = ixK n ns := by unfold ixD'; rw [hns]; rfl
  unfold findD valAtK
  rw [e]
  cases hi : ixK n ns with
  | none => exact ⟨fun d h => (by cases h), fun _ => rfl⟩
  | some i =>
    rw [Option.bind_some, Option.bind_some]
    have hv : ∀ d, vs[i]? = some d → ∃ u v, es[i]?.map (·.val) = some u ∧ RelV v u ∧ Dv X.K X.w w v d := fun d hd => by
      obtain ⟨v, h1, h2⟩ := D.dv.get hd
      obtain ⟨u, h3, h4⟩ := D.raw.vl.get h1
      rw [List.getElem?_map, Array.getElem?_toList] at h3
      exact ⟨u, v, h3, h4, h2⟩
    refine ⟨hv, fun h => ?_⟩
    have hl : vs.length = es.size := by rw [← D.dv.length, D.raw.vl.length]; simp
    have : es.size ≤ i := by rw [← hl]; exact List.getElem?_eq_none_iff.mp h
    rw [Array.getElem?_eq_none this]
    rfl
/-- another object at a tracked dict -/
theorem Inv.rawUpd {H : Hp} {a : Addr} {o o' : Obj} {h' : Heap} {t : Nat} (I : Inv X pins σ H s) (h : H a = some (RawIs a o)) (hs : Heap.SameBut a s.heap h') (ho : h'.get? a = some o') : Inv X pins σ (upd H a (RawIs a o')) { s with heap := h', toks := t } := by
  have mu : Mut (H a) := by rw [h]; exact True.intro
  have k : ∀ b u, b ≠ a → s.heap.get? b = some u → h'.get? b = some u := fun b u hb e => (hs.2 b hb).trans e
  refine I.un (Un.write mu (.inl rfl) k ⟨o', ho⟩) (I.hok.write mu (.inl rfl) k ⟨o', ho⟩ ?_)
  exact ⟨ho, ⟨o', ho⟩, fun h1 h2 p q => q _ p⟩
theorem raw_put {a : Addr} {ks vs : List Dt} {o o' : Obj} {es : Array DictEntry} {ep ep' : Nat} {kx vx : List V} (D : DRep X w a ks vs o es ep kx vx) {ns : List NestedKey} (hns : toKeys ks = some ns) {n : NestedKey} {k v : Dt} {x y : V} {u z : Value} (hk : keyN k = some n)
    (rx : RelV x u) (ry : RelV y z) (dx : Dv X.K X.w w x k) (dy : Dv X.K X.w w y v) (hz : es.size < sizeLine) (ex : o'.ExactDict) (hd : o'.data = .dict (putEs n ns X.w u z es) ep') :
    ∃ kx' vx', RawD a o' (putEs n ns X.w u z es) ep' kx' vx' ∧ KeysAre X.w (putD ks vs n k v).1 (putEs n ns X.w u z es) ∧ Dvs X.K X.w w kx' (putD ks vs n k v).1 ∧ Dvs X.K X.w w vx' (putD ks vs n k v).2 := by
  obtain ⟨hk1, hk2⟩ := keyN_some hk
  obtain ⟨ns', h1, h2, h3, h4⟩ := D.key
  rw [hns] at h1
  cases h1
  have e : ixD' ks n = ixK n ns := by unfold ixD'; rw [hns]; rfl
  unfold putD
  rw [e]
  unfold putEs at hd ⊢
  cases hi : ixK n ns with
  | some j =>
    rw [hi] at hd
    have em : ∀ {β : Type} (f : DictEntry → β), (∀ e : DictEntry, f { e with val := z } = f e) → (es.modify j fun e => { e with val := z }).toList.map f = es.toList.map f := fun f hf => by
      rw [Array.toList_modify]
      refine List.ext_getElem? fun i => ?_
      rw [List.getElem?_map, List.getElem?_map, List.getElem?_modify]
      cases hh : es.toList[i]? with
      | none => rfl
      | some e' => by_cases hij : j = i <;> simp [hij, hf]
    refine ⟨kx, vx.set j y, ⟨ex, hd, ?_, ?_, by simpa using D.raw.sz, D.raw.sm⟩, ⟨ns, hns, h2, h3, ?_⟩, D.dk, D.dv.set dy j⟩
    · rw [em (·.key) fun _ => rfl]
      exact D.raw.ky
    · have e2 : (es.modify j fun e => { e with val := z }).toList.map (·.val) = (es.toList.map (·.val)).set j z := by
        rw [Array.toList_modify]
        refine List.ext_getElem? fun i => ?_
        rw [List.getElem?_map, List.getElem?_modify, List.getElem?_set, List.getElem?_map]
        by_cases hij : j = i
        · subst hij
          cases hh : es.toList[j]? with
          | none =>
            have : ¬ j < es.toList.length := fun z => by rw [List.getElem?_eq_getElem z] at hh; cases hh
            simp at this
            simp [this]
          | some e' =>
            have : j < es.toList.length := (List.getElem?_eq_some_iff.mp hh).1
            simp at this
            simp [this]
        · simp [hij]
      rw [e2]
      exact Vals.set ry j D.raw.vl
    · rw [em (·.hash) fun _ => rfl]
      exact h4
  | none =>
    rw [hi] at hd
    have hnot : n ∉ ns := fun hm => by
      obtain ⟨i, hi2⟩ := List.mem_iff_getElem?.mp hm
      rw [ixK_some h2 hi2] at hi
      cases hi
    refine ⟨kx ++ [x], vx ++ [y], ⟨ex, hd, ?_, ?_, ?_, D.raw.sm⟩, ⟨ns ++ [n], toKeys_append hns (toKeys_one hk1), ?_, ?_, ?_⟩, D.dk.append (.one dx), D.dv.append (.one dy)⟩
    · rw [Array.toList_push, List.map_append]
      exact D.raw.ky.append (.cons rx .nil)
    · rw [Array.toList_push, List.map_append]
      exact D.raw.vl.append (.cons ry .nil)
    · rw [Array.size_push]
      omega
    · rw [List.nodup_append]
      refine ⟨h2, by simp, fun a ha b hb => ?_⟩
      have : b = n := by simpa using hb
      subst this
      exact fun e => hnot (e ▸ ha)
    · intro m hm
      rcases List.mem_append.mp hm with hm | hm
      · exact h3 m hm
      · have : m = n := by simpa using hm
        subst this
        exact hk2
    · rw [Array.toList_push, List.map_append, h4, List.map_append]
      rfl
end
end DL
/-! The data layer, part g: in, items, stores, dict displays and methods. -/
namespace DL
open PySem PySem.Spec PyProof.Rows L2

section
variable {X : Cx} {K : PySem.W.Frag} {W : World}
/-! ### x in y -/
def inO (M : Mem) (a b : Dt) : Option Bool := match b with
  | .str y => match a with
    | .str x => some (!(Builtin.Str.occurrences y x 0 y.length 1).isEmpty)
    | _ => none
  | b => match dictAt M b with
    | some (ks, _) => (keyN a).map fun n => (ixD' ks n).isSome
    | none => match seqAt M b with
      | some ds => match toPy (deref M a), toPys ds with
        | some p, some qs => if SeqAt.shaped p = true ∧ SeqAt.shaped (.tuple qs) = true then some (qs.any fun z => PyData.eqv z p) else none
        | _, _ => none
      | none => none
def rInA (K : PySem.W.Frag) (W : World) (neg : Bool) : R2 := fun x y H Q => ∃ w a b r, w.H = H ∧ Ok K W w ∧ Dv K W w x a ∧ Dv K W w y b ∧ inO w.M a b = some r ∧ Q (.bl (if neg then !r else r)) H
theorem shaped_canLay {qs : List PyData} (h : SeqAt.shaped (.tuple qs) = true) : PyData.canLayAll0 qs = true := SeqAt.canLay_of_shaped h
theorem Dvs.reads {w : Ws} {pins : List (Addr × Obj)} {σ : L2.St} {s : Shared} (I : Inv X pins σ w.H s) {b : Dt} {ds : List Dt} {qs : List PyData} {v : V} {u : Value} (ok : Ok X.K X.w w) (r : Dv X.K X.w w v b) (rv : RelV v u) (h : seqAt w.M b = some ds) (hq : toPys ds = some qs) :
    (∃ as, Reads s.heap u (.list qs) as) ∨ ∃ as, Reads s.heap u (.tuple qs) as := by
  obtain ⟨a, xs, rfl, q, rs⟩ := seqAt_ok ok r h
  have dp := Dvs.dp ds xs qs rs hq
  rcases q with q | q
  · exact .inl (Dp.reads I (.list qs) _ u (.lst q dp) rv)
  · exact .inr (Dp.reads I (.tuple qs) _ u (.tup q dp) rv)
theorem op_inA {k : Nat} (hr : Room k X.A) : OpR X (compareOp .In) (rInA X.K X.w false) := by
  intro pins s σ H x y v u Q I rx ry h
  obtain ⟨w, a, b, r, rfl, ok, da, db, hi, q⟩ := h
  have hu := hr.units
  unfold inO at hi
  split at hi
  · rename_i z
    cases db
    split at hi
    · rename_i x'
      cases da
      simp only [Option.some.injEq] at hi
      subst hi
      exact op_in_str pins s σ _ _ _ _ _ Q I rx ry ⟨_, _, rfl, rfl, q⟩
    · cases hi
  · split at hi
    · rename_i ks vs hd
      obtain ⟨n, hn, rfl⟩ := Option.map_eq_some_iff.mp hi
      obtain ⟨hn1, hn2⟩ := keyN_some hn
      obtain ⟨p, o, es, ep, kx, vx, rfl, D⟩ := dict_rep ok db hd
      obtain ⟨ns, hns, D'⟩ := D.dat I
      cases ry
      refine v_in D' (by omega) (Dv.nested I a x n v da hn1 rx) hn2 ⟨.bl _, w.H, I.tok _, rfl, ?_⟩
      have e : ixD' ks n = ixK n ns := by unfold ixD'; rw [hns]; rfl
      rw [e] at q
      exact q
    · split at hi
      · rename_i ds hs
        split at hi
        · rename_i p qs hp hq
          split at hi
          · rename_i hsh
            simp only [Option.some.injEq] at hi
            subst hi
            obtain ⟨as, r1⟩ := Dp.reads I p x v (deref_dp ok da hp) rx
            rcases Dvs.reads I ok db ry hs hq with ⟨bs, r2⟩ | ⟨bs, r2⟩
            · exact SeqAt.in_list_reads r2 r1 (shaped_canLay hsh.2) (SeqAt.canLay_of_shaped hsh.1) (room_in_shaped hsh.1 (by have := hr.un; omega)) ⟨.bl _, w.H, I, rfl, q⟩
            · exact SeqAt.in_tuple_reads r2 r1 (shaped_canLay hsh.2) (SeqAt.canLay_of_shaped hsh.1) (room_in_shaped hsh.1 (by have := hr.un; omega)) ⟨.bl _, w.H, I, rfl, q⟩
          · cases hi
        · cases hi
      · cases hi
theorem op_notInA {k : Nat} (hr : Room k X.A) : OpR X (compareOp .NotIn) (rInA X.K X.w true) := by
  intro pins s σ H x y v u Q I rx ry h
  obtain ⟨w, a, b, r, rfl, ok, da, db, hi, q⟩ := h
  have hu := hr.units
  unfold inO at hi
  split at hi
  · rename_i z
    cases db
    split at hi
    · rename_i x'
      cases da
      simp only [Option.some.injEq] at hi
      subst hi
      exact op_notin_str pins s σ _ _ _ _ _ Q I rx ry ⟨_, _, rfl, rfl, q⟩
    · cases hi
  · split at hi
    · rename_i ks vs hd
      obtain ⟨n, hn, rfl⟩ := Option.map_eq_some_iff.mp hi
      obtain ⟨hn1, hn2⟩ := keyN_some hn
      obtain ⟨p, o, es, ep, kx, vx, rfl, D⟩ := dict_rep ok db hd
      obtain ⟨ns, hns, D'⟩ := D.dat I
      cases ry
      refine v_notIn D' (by omega) (Dv.nested I a x n v da hn1 rx) hn2 ⟨.bl _, w.H, I.tok _, rfl, ?_⟩
      have e : ixD' ks n = ixK n ns := by unfold ixD'; rw [hns]; rfl
      rw [e] at q
      exact q
    · split at hi
      · rename_i ds hs
        split at hi
        · rename_i p qs hp hq
          split at hi
          · rename_i hsh
            simp only [Option.some.injEq] at hi
            subst hi
            obtain ⟨as, r1⟩ := Dp.reads I p x v (deref_dp ok da hp) rx
            rcases Dvs.reads I ok db ry hs hq with ⟨bs, r2⟩ | ⟨bs, r2⟩
            · exact SeqAt.notIn_list_reads r2 r1 (shaped_canLay hsh.2) (SeqAt.canLay_of_shaped hsh.1) (room_in_shaped hsh.1 (by have := hr.un; omega)) ⟨.bl _, w.H, I, rfl, q⟩
            · exact SeqAt.notIn_tuple_reads r2 r1 (shaped_canLay hsh.2) (SeqAt.canLay_of_shaped hsh.1) (room_in_shaped hsh.1 (by have := hr.un; omega)) ⟨.bl _, w.H, I, rfl, q⟩
          · cases hi
        · cases hi
      · cases hi
def inD : Dt → Dt → Mem → Option (Dt × Mem) := fun a b M => pur ((inO M a b).map .bl) M
def notInD : Dt → Dt → Mem → Option (Dt × Mem) := fun a b M => pur ((inO M a b).map fun c => .bl (!c)) M
theorem in_ok : R2Ok K W (rInA K W false) inD := by
  intro w x y a b d M' Q ok rx ry h f
  replace h := pur_eq h
  obtain ⟨rfl, h⟩ := h
  obtain ⟨r, hr, rfl⟩ := Option.map_eq_some_iff.mp h
  exact ⟨w, a, b, r, rfl, ok, rx, ry, hr, fin_here f ok (.bl _)⟩
theorem notIn_ok : R2Ok K W (rInA K W true) notInD := by
  intro w x y a b d M' Q ok rx ry h f
  replace h := pur_eq h
  obtain ⟨rfl, h⟩ := h
  obtain ⟨r, hr, rfl⟩ := Option.map_eq_some_iff.mp h
  exact ⟨w, a, b, r, rfl, ok, rx, ry, hr, fin_here f ok (.bl _)⟩
theorem re_in {a b : Expr} {pos : Pos} {k : Nat} {ma mb : EM} (hr : Room k X.A) (ha : RE X a ma) (hb : RE X b mb) (hm : behindInMarks .In b = false := by rfl) : RE X (.Compare a [.In] [b] pos) (opE inD ma mb) := re_cmp (op_inA hr) in_ok hm ha hb
theorem re_notIn {a b : Expr} {pos : Pos} {k : Nat} {ma mb : EM} (hr : Room k X.A) (ha : RE X a ma) (hb : RE X b mb) (hm : behindInMarks .NotIn b = false := by rfl) : RE X (.Compare a [.NotIn] [b] pos) (opE notInD ma mb) := re_cmp (op_notInA hr) notIn_ok hm ha hb
theorem rt_in {a b : Expr} {pos : Pos} {k : Nat} {ma mb : EM} (hr : Room k X.A) (ha : RE X a ma) (hb : RE X b mb) (hm : behindInMarks .In b = false := by rfl) : RT X (.Compare a [.In] [b] pos) (blT (opE inD ma mb)) := rt_cmp (op_inA hr) in_ok hm ha hb
theorem rt_notIn {a b : Expr} {pos : Pos} {k : Nat} {ma mb : EM} (hr : Room k X.A) (ha : RE X a ma) (hb : RE X b mb) (hm : behindInMarks .NotIn b = false := by rfl) : RT X (.Compare a [.NotIn] [b] pos) (blT (opE notInD ma mb)) := rt_cmp (op_notInA hr) notIn_ok hm ha hb

/-! ### x[i] of anything -/
def rIxK (K : PySem.W.Frag) (W : World) : R2 := fun x y H Q => ∃ w a b ks vs n d, w.H = H ∧ Ok K W w ∧ Dv K W w x a ∧ Dv K W w y b ∧ dictAt w.M a = some (ks, vs) ∧ keyN b = some n ∧ findD ks vs n = some d ∧ ∀ v, Dv K W w v d → Q v H
theorem ix_dict {k : Nat} (hr : Room k X.A) : IxR X (rIxK X.K X.w) := by
  intro value slice pins s σ H x y v u Q I rx ry h hs
  obtain ⟨w, a, b, ks, vs, n, d, rfl, ok, da, db, hd, hn, hf, q⟩ := h
  obtain ⟨hn1, hn2⟩ := keyN_some hn
  obtain ⟨p, o, es, ep, kx, vx, rfl, D⟩ := dict_rep ok da hd
  obtain ⟨ns, hns, D'⟩ := D.dat I
  obtain ⟨z, vz, hz, rz, dz⟩ := (D.val hns).1 d hf
  cases rx
  have hu := hr.units
  exact tail_any D'.ty F.slot_dict_getitem.lookup (v_item D' (by omega) (Dv.nested I b y n u db hn1 ry) hn2 hz ⟨vz, w.H, I.tok _, rz, q vz dz⟩) hs
def ixA : Dt → Dt → Mem → Option (Dt × Mem) := fun a b M => match dictAt M a with
  | some (ks, vs) => pur ((keyN b).bind fun n => findD ks vs n) M
  | none => ixD a b M
theorem ixA_ok : R2Ok K W (fun x y H Q => rIx K x y H Q ∨ rIxK K W x y H Q) ixA := by
  intro w x y a b d M' Q ok rx ry h f
  unfold ixA at h
  split at h
  · rename_i ks vs hd
    replace h := pur_eq h
    obtain ⟨rfl, h⟩ := h
    cases hn : keyN b with
    | none => rw [hn] at h; cases h
    | some n =>
      rw [hn] at h
      exact .inr ⟨w, a, b, ks, vs, n, d, rfl, ok, rx, ry, hd, hn, h, fun v r => fin_here f ok r⟩
  · exact .inl (ix_ok w x y a b d M' Q ok rx ry h f)
theorem re_ixA {a b : Expr} {pos : Pos} {k : Nat} {ma mb : EM} (hr : Room k X.A) (ha : RE X a ma) (hb : RE X b mb) (hs : PlainIx b := by exact fun _ _ => rfl) : RE X (.Subscript a b pos) (opE ixA ma mb) :=
  pe_weak (pe_ix (ix_seq.or (ix_dict hr)) ha hb hs) (opE_ok ixA_ok)

/-! ### x[i] = v -/
def storeD (M : Mem) (o i v : Dt) : Option Mem := match o with
  | .ref c => match M[c]? with
    | some (some (.lst ds)) => match i with
      | .int k => (ixN ds.length k).map fun j => M.set c (some (.lst (ds.set j v)))
      | _ => none
    | some (some (.dic ks vs)) => if ks.length < sizeLine then (keyN i).map fun n => M.set c (some (.dic (putD ks vs n i v).1 (putD ks vs n i v).2)) else none
    | _ => none
  | _ => none
def sSetA (K : PySem.W.Frag) (W : World) : TSet := fun x y z H Q => ∃ w o i v M', w.H = H ∧ Ok K W w ∧ Dv K W w x o ∧ Dv K W w y i ∧ Dv K W w z v ∧ storeD w.M o i v = some M' ∧ ∀ w', w'.M = M' → Ok K W w' → Ext w w' → Q w'.H
theorem DRep.len {w : Ws} {a : Addr} {ks vs : List Dt} {o : Obj} {es : Array DictEntry} {ep : Nat} {kx vx : List V} (D : DRep X w a ks vs o es ep kx vx) : es.size = ks.length := by
  rw [← D.dk.length, D.raw.ky.length]
  simp
theorem set_any {k : Nat} (hr : Room k X.A) : PSet X (sSetA X.K X.w) := by
  intro pins s σ H x y z ov iv u Q I rx ry rz h
  obtain ⟨w, o, i, v, M', rfl, ok, dx, dy, dz, hs, q⟩ := h
  have hu := hr.units
  unfold storeD at hs
  split at hs
  · rename_i c
    cases dx with
    | @ref _ a hc =>
      split at hs
      · rename_i ds hm
        split at hs
        · rename_i k
          obtain ⟨j, hj, rfl⟩ := Option.map_eq_some_iff.mp hs
          obtain ⟨xs, hx, r⟩ := ok.cells _ _ _ hc hm
          cases dy
          refine set_list pins s σ w.H _ _ _ _ _ _ _ I rx ry rz ⟨a, xs, k, j, rfl, rfl, hx, by rw [r.length]; exact hj, ?_⟩
          exact q (w.chg c a (.lst (xs.set j z)) (.lst (ds.set j v))) rfl (ok.chg hc hm ⟨_, upd_same, (r.set dz j).mono (Ext.chg ok hc hm)⟩) (Ext.chg ok hc hm)
        · cases hs
      · rename_i ks vs hm
        split at hs
        · rename_i hz
          obtain ⟨n, hn, rfl⟩ := Option.map_eq_some_iff.mp hs
          obtain ⟨hn1, hn2⟩ := keyN_some hn
          obtain ⟨ob, es, ep, kx, vx, h1, r, kk, h2, h3⟩ := ok.cells _ _ _ hc hm
          have D : DRep X w a ks vs ob es ep kx vx := ⟨.inl h1, r, kk, h2, h3⟩
          obtain ⟨ns, hns, D'⟩ := D.dat I
          have hsz : es.size < sizeLine := by rw [D.len]; exact hz
          cases rx
          refine v_set D' (by omega) (Dv.nested I i y n iv dy hn1 ry) hn2 (Nat.le_of_lt hsz) fun h' o' ep' p => ?_
          obtain ⟨kx', vx', r', kk', d1, d2⟩ := raw_put D hns hn ry rz dy dz hsz p.ex p.hd
          refine ⟨_, Inv.rawUpd I h1 p.same p.ho, ?_⟩
          refine q (w.chg c a (RawIs a o') (.dic (putD ks vs n i v).1 (putD ks vs n i v).2)) rfl (ok.chg hc hm ?_) (Ext.chg ok hc hm)
          exact ⟨o', _, ep', kx', vx', upd_same, r', kk', d1.mono (Ext.chg ok hc hm), d2.mono (Ext.chg ok hc hm)⟩
        · cases hs
      · cases hs
  · cases hs
def subG (mo mi : EM) : GM := fun d e M => thn1 (mo e M) fun o M1 => thn1 (mi e M1) fun i M2 => (storeD M2 o i d).map fun M3 => (e, M3)
theorem rg_sub {o i : Expr} {pos : Pos} {k : Nat} {mo mi : EM} (hr : Room k X.A) (ho : RE X o mo) (hi : RE X i mi) (ha : ∀ v, assign (.Subscript o i pos) X.env v = (do
      let ov ← holding [v] (eval o X.env)
      let iv ← holding [v, ov] (eval i X.env)
      standAt pos
      holding [v, ov, iv] (setItem ov iv v)
      release [v, ov, iv] []) := by intro _; rfl) : RG X (.Subscript o i pos) (subG mo mi) := by
  refine pg_weak (pg_sub ho hi (set_any hr) ha) fun v σ H Q q => ?_
  obtain ⟨w, d, e, e', M', rfl, ok, r, er, hm, f⟩ := q
  obtain ⟨od, M1, h1, hm⟩ := thn1_eq hm
  obtain ⟨id, M2, h2, hm⟩ := thn1_eq hm
  obtain ⟨M3, h3, hm⟩ := Option.map_eq_some_iff.mp hm
  cases hm
  refine ⟨w, e, od, M1, rfl, ok, er, h1, fun w1 x hM1 ok1 x1 rx => ?_⟩
  refine ⟨w1, e, id, M2, rfl, ok1, er.mono x1, by rw [hM1]; exact h2, fun w2 y hM2 ok2 x2 ry => ?_⟩
  refine ⟨w2, od, id, d, M', rfl, ok2, rx.mono x2, ry, (r.mono x1).mono x2, by rw [hM2]; exact h3, fun w3 hM3 ok3 x3 => ?_⟩
  exact f w3 hM3 ok3 ((x1.trans x2).trans x3) σ (((er.mono x1).mono x2).mono x3)

/-! ### dict displays -/
theorem cell_dic {w : Ws} {p : Addr} {o : Obj} {es : Array DictEntry} {ep : Nat} {kx vx : List V} {ks vs : List Dt} (ok : Ok K W w) (hp : w.H p = none) (r : RawD p o es ep kx vx) (k : KeysAre W ks es) (d1 : Dvs K W w kx ks) (d2 : Dvs K W w vx vs) :
    Ok K W (w.cell p (RawIs p o) (.dic ks vs)) := ok.cell hp ⟨o, es, ep, kx, vx, upd_same, r, k, d1.mono (Ext.cell ok hp), d2.mono (Ext.cell ok hp)⟩
def newDict : EM := fun _ M => some (.ref M.length, M ++ [some (.dic [] [])])
theorem re_newDict {pos : Pos} : RE X (.Dict [] [] pos) newDict := by
  refine ⟨fun pins s σ H Q I h => ?_⟩
  obtain ⟨w, sl, d, M', rfl, ok, er, hm, f⟩ := h
  cases hm
  have hp : w.H s.heap.objs.size = none := I.hok.fresh (Nat.le_refl _)
  refine wpAny_Dict_empty ⟨.ref s.heap.objs.size, upd w.H s.heap.objs.size (RawIs s.heap.objs.size { cls := .type "dict", data := .dict #[] }), I.laid (t' := s.toks) (fun _ _ q => Heap.get?_push_of_some _ q) (Nat.le_refl _) ?_, rfl, ?_⟩
  · exact ⟨Heap.get?_push_size _ rfl, ⟨_, Heap.get?_push_size _ rfl⟩, fun h1 h2 p q => q _ p⟩
  · refine f (w.cell s.heap.objs.size (RawIs s.heap.objs.size { cls := .type "dict", data := .dict #[] }) (.dic [] [])) _ rfl (cell_dic ok hp ⟨⟨rfl, rfl, rfl⟩, rfl, .nil, .nil, Nat.zero_le _, ?_⟩ ⟨[], rfl, List.nodup_nil, (fun _ h => nomatch h), rfl⟩ .nil .nil) (Ext.cell ok hp) (cell_ref ok)
    have := I.big
    exact beq_eq_false_iff_ne.mpr (Nat.ne_of_gt this)

/-- a hidden object becomes a cell -/
def Ws.bare (w : Ws) (p : Addr) (o : HO) (c : Dt) (ex : List Addr) : Ws := { ρ := w.ρ ++ [p], M := w.M ++ [some c], H := L2.upd w.H p o, ex := ex }
theorem live_bare {w : Ws} {p : Addr} {o : HO} {c : Dt} {ex : List Addr} {a : Addr} (ok : Ok K W w) (h : Live (w.bare p o c ex) a) : Live w a ∨ a = p := by
  obtain ⟨i, c', h1, h2⟩ := h
  have h1 : (w.ρ ++ [p])[i]? = some a := h1
  have h2 : (w.M ++ [some c])[i]? = some (some c') := h2
  by_cases hi : i < w.ρ.length
  · rw [List.getElem?_append_left hi] at h1
    rw [List.getElem?_append_left (by rw [← ok.len]; exact hi)] at h2
    exact .inl ⟨i, c', h1, h2⟩
  · rw [List.getElem?_append_right (by omega)] at h1
    have := List.mem_of_getElem? h1
    exact .inr (by simpa using this)
theorem Ext0.bare {w : Ws} (ok : Ok K W w) {p : Addr} {o o0 : HO} {c : Dt} {ex : List Addr} (hp : p ∈ w.ex) (h0 : w.H p = some o0) (hm : Mut (some o0)) (hx : ∀ a ∈ ex, a ∈ w.ex) : Ext0 w (w.bare p o c ex) := by
  refine ⟨⟨[p], rfl⟩, fun a u e n => ?_, fun a u e n => ⟨?_, fun z => ?_, fun z => n.nx (hx a z)⟩⟩
  · have : a ≠ p := by
      rintro rfl
      rw [h0] at e; cases e
      exact n hm
    show L2.upd w.H p o a = some u
    rw [upd_ne this]; exact e
  · have : a ≠ p := by
      rintro rfl
      exact n.nx hp
    show L2.upd w.H p o a = some u
    rw [upd_ne this]; exact e
  · rcases live_bare ok z with z | rfl
    · exact n.nl z
    · exact n.nx hp
theorem Ok.bare {w : Ws} (ok : Ok K W w) {p : Addr} {o o0 : HO} {c : Dt} {ex : List Addr} (hp : p ∈ w.ex) (h0 : w.H p = some o0) (hm : Mut (some o0)) (hx : ∀ a ∈ ex, a ∈ w.ex) (hpx : p ∉ ex) (hc : CellAt K W (w.bare p o c ex) p c) : Ok K W (w.bare p o c ex) := by
  have hpr : p ∉ w.ρ := (ok.exl p hp).1
  have all : ∀ b, (∃ u, w.H b = some u) → ∃ u, L2.upd w.H p o b = some u := fun b hb => by
    by_cases e : b = p
    · subst e; exact ⟨o, upd_same⟩
    · rw [upd_ne e]; exact hb
  refine ⟨?_, ?_, fun a h => ?_, fun a h => ⟨?_, all a (ok.exl a (hx a h)).2⟩, fun i a c' h1 h2 => ?_⟩
  · show (w.ρ ++ [p]).length = (w.M ++ [some c]).length
    rw [List.length_append, List.length_append, ok.len]; rfl
  · show (w.ρ ++ [p]).Nodup
    rw [List.nodup_append]
    refine ⟨ok.nd, by simp, ?_⟩
    intro x hx' y hy
    have : y = p := by simpa using hy
    subst this
    exact fun e => hpr (e ▸ hx')
  · rcases List.mem_append.mp h with h | h
    · exact all a (ok.has a h)
    · have : a = p := by simpa using h
      subst this
      exact ⟨o, upd_same⟩
  · show a ∉ w.ρ ++ [p]
    rw [List.mem_append, not_or]
    refine ⟨(ok.exl a (hx a h)).1, ?_⟩
    simp only [List.mem_singleton]
    rintro rfl
    exact hpx h
  · have h1 : (w.ρ ++ [p])[i]? = some a := h1
    have h2 : (w.M ++ [some c])[i]? = some (some c') := h2
    by_cases hi : i < w.ρ.length
    · rw [List.getElem?_append_left hi] at h1
      rw [List.getElem?_append_left (by rw [← ok.len]; exact hi)] at h2
      have hmem : a ∈ w.ρ := List.mem_of_getElem? h1
      refine CellAt.mono0 (Ext0.bare ok hp h0 hm hx) ?_ (ok.cells i a c' h1 h2)
      show L2.upd w.H p o a = w.H a
      exact upd_ne fun e => hpr (e ▸ hmem)
  
    · rw [List.getElem?_append_right (by omega)] at h1
      rw [List.getElem?_append_right (by rw [← ok.len]; omega)] at h2
      have e1 : a = p := by
        have := List.mem_of_getElem? h1
        simpa using this
      have e2 : some c' = some c := by
        have := List.mem_of_getElem? h2
        simpa using this
      cases e2
      subst e1
      exact hc
theorem Ext.bare {w1 w2 : Ws} (ok1 : Ok K W w1) (ok2 : Ok K W w2) (x : Ext w1 w2) {p : Addr} {o : HO} {c : Dt} (hp : w1.H p = none) : Ext w1 (w2.bare p o c w1.ex) := by
  refine ⟨⟨?_, fun a u e n => ?_, fun a u e n => ?_⟩, fun a h => ?_, fun a h => h⟩
  · obtain ⟨t, q⟩ := x.pre
    exact ⟨t ++ [p], by show w2.ρ ++ [p] = _; rw [q, List.append_assoc]⟩
  · show L2.upd w2.H p o a = some u
    rw [upd_ne (ne_of_none e hp)]
    exact x.imm a u e n
  · obtain ⟨h1, n1⟩ := x.frz a u e n
    refine ⟨?_, fun z => ?_, n.nx⟩
    · show L2.upd w2.H p o a = some u
      rw [upd_ne (ne_of_none e hp)]
      exact h1
    · rcases live_bare ok2 z with z | rfl
      · exact n1.nl z
      · rw [hp] at e; cases e
  · show L2.upd w2.H p o a = w1.H a
    rw [upd_ne (ok1.exn hp h)]
    exact x.hid a h
theorem bare_ref {w : Ws} {p : Addr} {o : HO} {c : Dt} {ex : List Addr} (ok : Ok K W w) : Dv K W (w.bare p o c ex) (.ref p) (.ref w.M.length) := by
  refine .ref ?_
  show (w.ρ ++ [p])[w.M.length]? = some p
  rw [← ok.len]
  simp

abbrev PM := List (EM × EM)
def evalP : PM → Sl → Mem → Option (List (Dt × Dt) × Mem)
  | [], _, M => some ([], M)
  | (mk, mv) :: r, e, M => thn1 (mk e M) fun k M1 => thn1 (mv e M1) fun v M2 => thn1 (evalP r e M2) fun ps M3 => some ((k, v) :: ps, M3)
def strKeys : List Dt → Option (List Str)
  | [] => some []
  | .str x :: r => (strKeys r).map fun xs => x :: xs
  | _ :: _ => none
def dispE (pm : PM) : EM := fun e M => thn1 (evalP pm e M) fun ps M1 => match strKeys (ps.map (·.1)) with
  | some xs => if xs.Nodup ∧ xs.length ≤ 15 then some (.ref M1.length, M1 ++ [some (.dic (ps.map (·.1)) (ps.map (·.2)))]) else none
  | none => none
theorem pairs_read {σ : L2.St} : ∀ {pm : PM} {w : Ws} {e : Sl} {ps : List (Dt × Dt)} {M' : Mem} {Q : List (V × V) → Hp → Prop}, Ok K W w → EnvR K W w σ e → evalP pm e w.M = some (ps, M') →
    (∀ w' (xs : List (V × V)), w'.M = M' → Ok K W w' → Ext w w' → Dvs K W w' (xs.map (·.1)) (ps.map (·.1)) → Dvs K W w' (xs.map (·.2)) (ps.map (·.2)) → Q xs w'.H) → tPairs (pm.map fun p => (tE K W p.1, tE K W p.2)) σ w.H Q
  | [], w, e, ps, M', Q, ok, er, hm, k => by
    cases hm
    exact k w [] rfl ok (Ext.refl w) .nil .nil
  | (mk, mv) :: r, w, e, ps, M', Q, ok, er, hm, k => by
    obtain ⟨a, M1, h1, hm⟩ := thn1_eq hm
    obtain ⟨b, M2, h2, hm⟩ := thn1_eq hm
    obtain ⟨qs, M3, h3, hm⟩ := thn1_eq hm
    cases hm
    refine ⟨w, e, a, M1, rfl, ok, er, h1, fun w1 x hM1 ok1 x1 rx => ?_⟩
    refine ⟨w1, e, b, M2, rfl, ok1, er.mono x1, by rw [hM1]; exact h2, fun w2 y hM2 ok2 x2 ry => ?_⟩
    refine pairs_read ok2 ((er.mono x1).mono x2) (by rw [hM2]; exact h3) fun w3 xs hM3 ok3 x3 r1 r2 => ?_
    exact k w3 ((x, y) :: xs) hM3 ok3 ((x1.trans x2).trans x3) (.cons ((rx.mono x2).mono x3) r1) (.cons (ry.mono x3) r2)
theorem strKeys_ok {w : Ws} : ∀ {ds : List Dt} {xs : List Str} {vs : List V}, strKeys ds = some xs → Dvs K W w vs ds → vs = xs.map V.str ∧ ds = xs.map Dt.str
  | [], xs, vs, h, r => by simp [strKeys] at h; subst h; cases r; exact ⟨rfl, rfl⟩
  | d :: ds, xs, vs, h, r => by
    cases d with
    | str x =>
      simp only [strKeys, Option.map_eq_some_iff] at h
      obtain ⟨ys, h, rfl⟩ := h
      cases r with
      | cons r1 r2 =>
        cases r1
        obtain ⟨e1, e2⟩ := strKeys_ok h r2
        exact ⟨by rw [List.map_cons, e1], by rw [List.map_cons, e2]⟩
    | _ => simp [strKeys] at h
theorem toKeys_strs : ∀ xs : List Str, toKeys (xs.map Dt.str) = some (xs.map NestedKey.text)
  | [] => rfl
  | x :: xs => by rw [List.map_cons, toKeys, toKeys_strs xs]; rfl
theorem stored_new {κ β : Type} [DecidableEq κ] {acc : List (κ × Value)} {k : κ} {v : Value} (h : k ∉ acc.map (·.1)) : stored acc k v = acc ++ [(k, v)] := by
  unfold stored
  rw [if_neg]
  intro z
  rw [List.any_eq_true] at z
  obtain ⟨x, hx, e⟩ := z
  exact h (List.mem_map.mpr ⟨x, hx, by simpa using e⟩)
theorem merged_new {κ : Type} [DecidableEq κ] : ∀ {rs acc : List (κ × Value)}, ((acc ++ rs).map (·.1)).Nodup → merged acc rs = acc ++ rs
  | [], acc, _ => by simp [merged]
  | (k, v) :: rs, acc, h => by
    have h2 : k ∉ acc.map (·.1) := by
      rw [List.map_append, List.nodup_append] at h
      exact fun z => h.2.2 k z k (by simp) rfl
    show merged (stored acc k v) rs = _
    rw [stored_new (β := Value) h2, merged_new (by simpa using h)]
    simp
/-- a dict of the library with text keys, as its raw object -/
theorem raw_of {P : Program} {h : Heap} {p : Addr} {rs : List (Key × Value)} {xs : List Str} {ys : List V} (d : h.DictOf (mixKind P W) p rs) (hk : rs.map (·.1) = xs.map Sum.inr) (hv : Vals ys (rs.map (·.2))) (nd : xs.Nodup) (hz : xs.length ≤ sizeLine) (sm : (p == sysModules) = false) :
    ∃ o es ep, h.get? p = some o ∧ RawD p o es ep (xs.map V.str) ys ∧ KeysAre W (xs.map Dt.str) es := by
  obtain ⟨o, es, ep, ho, ex, hd, ko, pr, _⟩ := d
  have hkeys : ∀ e ∈ es.toList, ∃ k, keyIs k e.key = true ∧ e.hash = keyH W k := fun e he => ko e (Array.mem_toList_iff.mp he)
  clear ko
  have hsz : es.size = rs.length := by
    have : ∀ {l : List DictEntry} {r : List (Key × Value)}, Pairs (mixKind P W) l r → l.length = r.length := fun q => by
      induction q with
      | nil => rfl
      | cons _ _ _ ih => simp [ih]
    rw [← Array.length_toList]
    exact this pr
  have hl : rs.length = xs.length := by
    have := congrArg List.length hk
    simpa using this
  have main : ∀ {l : List DictEntry} {r : List (Key × Value)} {xs : List Str} {ys : List V}, (∀ e ∈ l, ∃ k, keyIs k e.key = true ∧ e.hash = keyH W k) → Pairs (mixKind P W) l r → r.map (·.1) = xs.map Sum.inr → Vals ys (r.map (·.2)) →
      Vals (xs.map V.str) (l.map (·.key)) ∧ Vals ys (l.map (·.val)) ∧ l.map (·.hash) = (xs.map NestedKey.text).map (·.hash W) := by
    intro l r xs ys hko q
    induction q generalizing xs ys with
    | nil =>
      intro h1 h2
      cases xs with
      | nil => exact ⟨.nil, h2, rfl⟩
      | cons _ _ => cases h1
    | @cons e kv l r hk he hp ih =>
      intro h1 h2
      cases xs with
      | nil => cases h1
      | cons x xs =>
        simp only [List.map_cons, List.cons.injEq] at h1
        cases h2 with
        | cons r1 r2 =>
          obtain ⟨i1, i2, i3⟩ := ih (fun e' he' => hko e' (List.mem_cons_of_mem _ he')) h1.2 r2
          have hk' : keyIs (Sum.inr x) e.key = true := by
            have : keyIs kv.1 e.key = true := hk
            rw [h1.1] at this
            exact this
          obtain ⟨t, ht⟩ := Value.isStrOf_shape (x := x) (v := e.key) hk'
          refine ⟨.cons ⟨t, ht⟩ i1, .cons (by show RelV _ e.val; rw [he]; exact r1) i2, ?_⟩
          rw [List.map_cons, List.map_cons, List.map_cons, i3]
          obtain ⟨k, k1, k2⟩ := hko e List.mem_cons_self
          have : k = Sum.inr x := (mixKind P W).inj _ _ _ k1 hk'
          subst this
          rw [k2]
          rfl
  obtain ⟨m1, m2, m3⟩ := main hkeys pr hk hv
  refine ⟨o, es, ep, ho, ⟨ex, hd, m1, m2, by omega, sm⟩, xs.map NestedKey.text, toKeys_strs xs, ?_, fun n hn => ?_, m3⟩
  · rw [List.nodup_iff_pairwise_ne] at nd ⊢
    rw [List.pairwise_map]
    exact nd.imp fun h e => h (NestedKey.text.inj e)
  · obtain ⟨x, _, rfl⟩ := List.mem_map.mp hn
    exact Nat.zero_le _
theorem carries_strs {P : Program} : ∀ {ps : List (V × V)} {ws : List (Value × Value)} {xs : List Str}, VV ps ws → ps.map (·.1) = xs.map V.str → ∃ rs, Carries (mixKind P W) ws rs ∧ rs.map (·.1) = xs.map Sum.inr ∧ Vals (ps.map (·.2)) (rs.map (·.2))
  | [], _, xs, r, e => by
    cases r
    cases xs with
    | nil => exact ⟨[], True.intro, rfl, .nil⟩
    | cons _ _ => cases e
  | p :: ps, _, xs, r, e => by
    cases xs with
    | nil => cases e
    | cons x xs =>
      simp only [List.map_cons, List.cons.injEq] at e
      cases r with
      | @cons _ q _ ws h t =>
        obtain ⟨rs, c, e2, v2⟩ := carries_strs (P := P) t e.2
        obtain ⟨q1, q2⟩ := q
        have hq : RelV (.str x) q1 := by rw [← e.1]; exact h.1
        obtain ⟨tk, rfl⟩ := hq
        exact ⟨(Sum.inr x, q2) :: rs, ⟨keyIs_str x tk, rfl, c⟩, by rw [List.map_cons, e2]; rfl, .cons h.2 v2⟩
theorem re_disp {pos : Pos} {keys : List (Option Expr)} {values : List Expr} {pm : PM} (h : PPs X pos keys values (pm.map fun p => (tE X.K X.w p.1, tE X.K X.w p.2))) (hall : keys.all (·.isSome) = true) (hl : keys.length = values.length) (h0 : keys ≠ [])
    (h15 : keys.length ≤ 15) : RE X (.Dict keys values pos) (dispE pm) := by
  refine ⟨fun pins s σ H Q I q => ?_⟩
  obtain ⟨w, sl, d, M', rfl, ok, er, hm, f⟩ := q
  obtain ⟨ps, M1, h1, hm⟩ := thn1_eq hm
  split at hm
  · rename_i xs hxs
    split at hm
    · rename_i hnd
      simp only [Option.some.injEq, Prod.mk.injEq] at hm
      obtain ⟨rfl, rfl⟩ := hm
      have hp : w.H s.heap.objs.size = none := I.hok.fresh (Nat.le_refl s.heap.objs.size)
      have I1 := I.laid (a := s.heap.objs.size) (o := .dK []) (h' := s.heap.push { cls := .type "dict", data := .dict #[] }) (t' := s.toks) (fun _ _ q => Heap.get?_push_of_some _ q) (Nat.le_refl _) (dk_empty s.heap I.big)
      have okh := ok.hide (o := .dK []) hp
      have xh := Ext.hide ok (o := .dK []) hp
      refine wpAny_Dict_walk (knd := mixKind X.prog X.w) hall hl h0 h15 (thn (h.run pins _ σ _ (fun zs H2 => ∃ w2, w2.M = M1 ∧ w2.H = H2 ∧ Ok X.K X.w w2 ∧ Ext (w.hide s.heap.objs.size (.dK [])) w2 ∧ Dvs X.K X.w w2 (zs.map (·.1)) (ps.map (·.1)) ∧ Dvs X.K X.w w2 (zs.map (·.2)) (ps.map (·.2))) I1 ?_) fun ws s2 ⟨zs, H2, I2, rel, w2, hM2, hH2, ok2, x2, d1, d2⟩ => ?_)
      · exact pairs_read (w := w.hide s.heap.objs.size (.dK [])) okh (er.mono xh) h1 fun w2 zs hM ok2 x2 r1 r2 => ⟨w2, hM, rfl, ok2, x2, r1, r2⟩
      · subst hH2
        have hpx : s.heap.objs.size ∈ (w.hide s.heap.objs.size (.dK [])).ex := List.mem_cons_self
        have hp2 : w2.H s.heap.objs.size = some (.dK []) := (x2.hid _ hpx).trans upd_same
        obtain ⟨e1, e2⟩ := strKeys_ok hxs d1
        obtain ⟨rs, c, k1, v1⟩ := carries_strs (P := X.prog) (W := X.w) rel e1
        obtain ⟨z, hd, vs0, r0, dd⟩ := dk_of I2.hok hp2
        cases r0
        refine ⟨rs, c, dd, fun h' dd' hs => ?_⟩
        have nd1 : (rs.map (·.1)).Nodup := by
          rw [k1, List.nodup_iff_pairwise_ne, List.pairwise_map]
          exact (List.nodup_iff_pairwise_ne.mp hnd.1).imp fun h e => h (Sum.inr.inj e)
        rw [merged_new (by simpa using nd1), List.nil_append] at dd'
        obtain ⟨o, es, ep, ho, rd, ka⟩ := raw_of dd' k1 v1 hnd.1 (by rw [sizeLine_eq]; omega) hd
        rw [← e2] at ka
        have mu : Mut (w2.H s.heap.objs.size) := by rw [hp2]; exact True.intro
        have I3 : Inv X pins σ (L2.upd w2.H s.heap.objs.size (RawIs s.heap.objs.size o)) { s2 with heap := h', toks := s2.toks + ws.length } :=
          d_write I2 mu hs ⟨o, ho⟩ ⟨ho, ⟨o, ho⟩, fun h1 h2 p q => q _ p⟩
        have hpin : s.heap.objs.size ∈ w2.ex := x2.exm _ hpx
        have hsub : ∀ a ∈ w.ex, a ∈ w2.ex := fun a ha => x2.exm a (List.mem_cons_of_mem _ ha)
        have e0 := Ext0.bare ok2 (o := RawIs s.heap.objs.size o) (c := .dic (ps.map (·.1)) (ps.map (·.2))) (ex := w.ex) hpin hp2 True.intro hsub
        have ok3 := ok2.bare (o := RawIs s.heap.objs.size o) (c := .dic (ps.map (·.1)) (ps.map (·.2))) hpin hp2 True.intro hsub (ok.exf hp) ⟨o, es, ep, _, _, upd_same, rd, ka, by rw [← e1]; exact Dvs.mono0 e0 _ _ d1, Dvs.mono0 e0 _ _ d2⟩
        have xx : Ext w w2 := xh.trans x2
        refine ⟨.ref s.heap.objs.size, _, I3, rfl, f (w2.bare s.heap.objs.size (RawIs s.heap.objs.size o) (.dic (ps.map (·.1)) (ps.map (·.2))) w.ex) _ ?_ ok3 (Ext.bare ok ok2 xx hp) ?_⟩
        · show w2.M ++ _ = _
          rw [hM2]
        · rw [← hM2]
          exact bare_ref ok2
    · cases hm
  · cases hm
theorem pps_nilD {pos : Pos} : PPs X pos [] [] (([] : PM).map fun p => (tE X.K X.w p.1, tE X.K X.w p.2)) := pps_nil
theorem pps_consD {pos : Pos} {k v : Expr} {ks : List (Option Expr)} {vs : List Expr} {mk mv : EM} {pm : PM} (hk : RE X k mk) (hv : RE X v mv) (hr : PPs X pos ks vs (pm.map fun p => (tE X.K X.w p.1, tE X.K X.w p.2))) :
    PPs X pos (some k :: ks) (v :: vs) (((mk, mv) :: pm).map fun p => (tE X.K X.w p.1, tE X.K X.w p.2)) := pps_cons hk hv hr
end
end DL
/-! The data layer, part h: the order of nested keys; starred items of displays; a def that is out of fuel. -/
namespace DL
open PySem PySem.Spec PyProof.Rows L2

theorem fn_none {P : Program} {W : World} {K : PySem.W.Frag} {mg : Str → Option Value} {base : Heap} {k n : Nat} {f : Addr} {fd : FuncData} {ps : List Str} : FnOk P W K mg base CX0 k f fd ps (spF K W n fun _ _ => none) :=
  ⟨fun vs H Q E h => (by obtain ⟨w, ds, d, M', _, _, _, _, h, _⟩ := h; cases h), fun A outer s H args us vs Q E _ _ _ _ h => (by obtain ⟨w, ds, d, M', _, _, _, _, h, _⟩ := h; cases h)⟩

/-! ### starred items -/
section
variable {X : Cx} {K : PySem.W.Frag} {W : World}
def starA (m : EM) (r : AM) : AM := fun e M => thn1 (m e M) fun d M1 => match seqAt M1 d with
  | some ds => thn1 (r e M1) fun es M2 => some (ds ++ es, M2)
  | none => none
theorem ra_star {e : Expr} {p : Pos} {es : List Expr} {m : EM} {r : AM} (he : RE X e m) (hr : RA X es r) (hs : starEach (.Starred e p :: es) X.env = (true, eval e X.env) :: starEach es X.env := by rfl) : RA X (.Starred e p :: es) (starA m r) := by
  refine pa_weak (StX.pa_star he hr hs) fun σ H Q q => ?_
  obtain ⟨w, sl, ds, M', rfl, ok, er, hm, f⟩ := q
  obtain ⟨d, M1, h1, hm⟩ := thn1_eq hm
  split at hm
  · rename_i xs hx
    obtain ⟨ys, M2, h2, hm⟩ := thn1_eq hm
    cases hm
    refine ⟨w, sl, d, M1, rfl, ok, er, h1, fun w1 v hM1 ok1 x1 rv => ?_⟩
    obtain ⟨a, us, rfl, hq, ru⟩ := seqAt_ok ok1 rv (by rw [hM1]; exact hx)
    refine ⟨a, us, rfl, hq.symm, w1, sl, ys, _, rfl, ok1, er.mono x1, by rw [hM1]; exact h2, fun w2 vs hM2 ok2 x2 r2 => ?_⟩
    exact f w2 (us ++ vs) hM2 ok2 (x1.trans x2) ((ru.mono x2).append r2)
  · cases hm
end

/-! ### the order of nested keys: as Python's < goes, none where it raises -/
mutual
def ltK : NestedKey → NestedKey → Option Bool
  | .num a, .num b => some (decide (a < b))
  | .text a, .text b => some (decide (a.cps.toList < b.cps.toList))
  | .tup a, .tup b => ltKs a b
  | .none, _ => none
  | .num _, .none => none
  | .num _, .text _ => none
  | .num _, .tup _ => none
  | .text _, .none => none
  | .text _, .num _ => none
  | .text _, .tup _ => none
  | .tup _, .none => none
  | .tup _, .num _ => none
  | .tup _, .text _ => none
def ltKs : List NestedKey → List NestedKey → Option Bool
  | [], [] => some false
  | [], _ :: _ => some true
  | _ :: _, [] => some false
  | x :: xs, y :: ys => if x = y then ltKs xs ys else ltK x y
end
mutual
/-- the value v is the key; no truth values -/
inductive OrdIs (h : Heap) : NestedKey → Value → Prop
  | none : OrdIs h .none .none
  | int (i t) : OrdIs h (.num i) (.int i t)
  | text (x t) : OrdIs h (.text x) (.str x t)
  | tup {a o vs n ks} : h.get? a = some o → o.cls = .type "tuple" → o.data = .seq vs n → OrdAll h ks vs.toList → OrdIs h (.tup ks) (.ref a)
inductive OrdAll (h : Heap) : List NestedKey → List Value → Prop
  | nil : OrdAll h [] []
  | cons {k v ks vs} : OrdIs h k v → OrdAll h ks vs → OrdAll h (k :: ks) (v :: vs)
end
mutual
theorem OrdIs.nested {h : Heap} : ∀ (k : NestedKey) (v : Value), OrdIs h k v → NestedIs h k v
  | .none, _, r => by cases r; exact .none
  | .num i, _, r => by cases r; exact .int _ _
  | .text x, _, r => by cases r; exact .text _ _
  | .tup ks, _, r => by cases r with | tup h1 h2 h3 h4 => exact .tup h1 h2 h3 (OrdAll.nested ks _ h4)
theorem OrdAll.nested {h : Heap} : ∀ (ks : List NestedKey) (vs : List Value), OrdAll h ks vs → NestedAll h ks vs
  | [], _, r => by cases r; exact .nil
  | k :: ks, _, r => by cases r with | cons h1 h2 => exact .cons (OrdIs.nested k _ h1) (OrdAll.nested ks _ h2)
end
mutual
theorem OrdIs.keeps {h h' : Heap} (hk : ∀ a o, h.get? a = some o → h'.get? a = some o) : ∀ (k : NestedKey) (v : Value), OrdIs h k v → OrdIs h' k v
  | .none, _, r => by cases r; exact .none
  | .num i, _, r => by cases r; exact .int _ _
  | .text x, _, r => by cases r; exact .text _ _
  | .tup ks, _, r => by cases r with | tup h1 h2 h3 h4 => exact .tup (hk _ _ h1) h2 h3 (OrdAll.keeps hk ks _ h4)
theorem OrdAll.keeps {h h' : Heap} (hk : ∀ a o, h.get? a = some o → h'.get? a = some o) : ∀ (ks : List NestedKey) (vs : List Value), OrdAll h ks vs → OrdAll h' ks vs
  | [], _, r => by cases r; exact .nil
  | k :: ks, _, r => by cases r with | cons h1 h2 => exact .cons (OrdIs.keeps hk k _ h1) (OrdAll.keeps hk ks _ h2)
end
/-- the first two that differ decide; else the lengths -/
def Lx (A : Around) (s : Shared) : List Value → List Value → Bool → Prop
  | [], [], b => b = false
  | [], _ :: _, b => b = true
  | _ :: _, [], b => b = false
  | x :: xs, y :: ys, b => ∃ e, SeqAt.EqAt A s x y e ∧ (e = true → Lx A s xs ys b) ∧ (e = false → Ob.RcOp .Lt A s x y b)
theorem zip_cons {α β : Type} {us : List α} {vs : List β} {p : α × β} {r : List (α × β)} (h : p :: r = us.zip vs) : ∃ u ut v vt, us = u :: ut ∧ vs = v :: vt ∧ p = (u, v) ∧ r = ut.zip vt := by
  cases us with
  | nil => cases h
  | cons u ut =>
    cases vs with
    | nil => cases h
    | cons v vt =>
      rw [List.zip_cons_cons] at h
      cases h
      exact ⟨u, ut, v, vt, rfl, rfl, rfl, rfl⟩
theorem Lx.done {A : Around} {s : Shared} {us vs : List Value} {b : Bool} (h : Lx A s us vs b) (e : [] = us.zip vs) : b = decide (us.length < vs.length) := by
  cases us with
  | nil =>
    cases vs with
    | nil => exact h
    | cons v vt =>
      have h : b = true := h
      rw [h]; simp
  | cons u ut =>
    cases vs with
    | nil =>
      have h : b = false := h
      rw [h]; simp
    | cons v vt => cases e
open PySem.AutoSeq1 (wpAny_loadPart') in
theorem tuple_ltF (l b : Addr) (items items2 : Array Value) (n n2 : Nat) (dd dd2 : Option Addr) (sl sl2 : Array (Option Value)) (c : Bool) :
    Meets (Builtin.«tuple.__lt__» ⟨[.ref l, .ref b], []⟩)
      (fun A R s => s.heap.get? l = some { cls := .type "tuple", dict := dd, data := .seq items n, slots := sl } ∧ s.heap.get? b = some { cls := .type "tuple", dict := dd2, data := .seq items2 n2, slots := sl2 } ∧
        Lx A.in1 s items.toList items2.toList c ∧ R (.ok (.ret (.bool c))) s) :=
  .of_wp fun prog w A R s h => by
    obtain ⟨hp, g, d, tk, os⟩ := s; obtain ⟨hl, hb, he, h⟩ := h
    have f2 := AutoSeq1.sub_tuple_tuple
    wp_walk using wpAny_loadPart' hl, wpAny_loadPart' hb, wpAny_forIn_list _ (fun rest b s' => b.1 = none ∧ s' = ⟨hp, g, d, tk, os⟩ ∧ ∃ us vs, rest = us.zip vs ∧ Lx A.in1 ⟨hp, g, d, tk, os⟩ us vs c ∧
      decide (us.length < vs.length) = decide (items.size < items2.size)) _
    case turn =>
      rintro ⟨y, x⟩ rest b s' ⟨hb', rfl, us, vs, hz, hL, hs⟩
      obtain ⟨u, ut, v, vt, rfl, rfl, ep, rfl⟩ := zip_cons hz
      cases ep
      obtain ⟨e, h1, h2, h3⟩ := hL
      refine wpAny_bind (h1 prog w _ _ ?_)
      cases e with
      | true =>
        wp_walk
        exact ⟨rfl, rfl, ut, vt, rfl, h2 rfl, by simpa using hs⟩
      | false =>
        have hri := h3 rfl prog w
        wp_walk using hri
        exact ⟨_, rfl, by simpa using h⟩
    case fin =>
      rintro ⟨b1, b2⟩ s' ⟨hb', rfl, us, vs, hz, hL, hs⟩
      simp only at hb'
      subst hb'
      have e := (hL.done hz).trans hs
      wp_walk
      exact ⟨_, rfl, by simpa [Builtin.Tuple.tupleCompareSizes, e] using h⟩
    case h =>
      exact ⟨rfl, rfl, items.toList, items2.toList, rfl, he, by simp⟩
theorem tuples_ltF {A : Around} {s : Shared} {l b : Addr} {items items2 : Array Value} {c : Bool} (hl : s.heap.IsTuple l items) (hb : s.heap.IsTuple b items2) (hu : A.units < cLine) (h : Lx A.in1 s items.toList items2.toList c) : Ob.RcOp .Lt A s (.ref l) (.ref b) c := fun prog w E Q q => by
  obtain ⟨⟨cls, dd, data, sl⟩, ho, hc, n, hd⟩ := id hl
  obtain ⟨⟨cls2, dd2, data2, sl2⟩, ho2, hc2, n2, hd2⟩ := id hb
  simp only at hc hd hc2 hd2
  subst hc hd hc2 hd2
  exact richCompare_meets_room (op := .Lt) ⟨_, ho, rfl⟩ ⟨_, ho2, rfl⟩ F.slot_tuple_lt F.entry_tuple_lt (F.args_tuple_lt_2 _ _) (tuple_ltF l b items items2 n n2 dd dd2 sl sl2 c)
    ⟨ho, ho2, h, ⟨(fun x => nomatch x), q⟩⟩ hu
mutual
theorem ltK_rc : ∀ (x y : NestedKey) (A : Around) (s : Shared) (a b : Value) (r : Bool), OrdIs s.heap x a → OrdIs s.heap y b → ltK x y = some r → A.units + min x.depth y.depth < cLine → Ob.RcOp .Lt A s a b r
  | .none, y, _, _, _, _, _, _, _, h, _ => by cases y <;> simp [ltK] at h
  | .num i, y, A, s, _, _, r, hx, hy, h, hu => by
    cases y <;> simp only [ltK, Option.some.injEq, reduceCtorEq] at h
    subst h
    cases hx
    cases hy
    exact Ob.RcOp.lt_int _ _ _ _
  | .text i, y, A, s, _, _, r, hx, hy, h, hu => by
    cases y <;> simp only [ltK, Option.some.injEq, reduceCtorEq] at h
    subst h
    cases hx
    cases hy
    exact fun prog w E Q q => PyProof.Rows.lt_str q
  | .tup xs, y, A, s, _, _, r, hx, hy, h, hu => by
    cases y with
    | tup ys =>
      rw [ltK] at h
      simp only [NestedKey.depth] at hu
      cases hx with
      | tup h1 h2 h3 h4 =>
        cases hy with
        | tup k1 k2 k3 k4 =>
          exact tuples_ltF ⟨_, h1, h2, _, h3⟩ ⟨_, k1, k2, _, k3⟩ (by omega) (ltKs_lx xs ys A.in1 s _ _ r h4 k4 h (by show A.units + 1 + _ < _; omega))
    | _ => simp [ltK] at h
theorem ltKs_lx : ∀ (xs ys : List NestedKey) (A : Around) (s : Shared) (us vs : List Value) (r : Bool), OrdAll s.heap xs us → OrdAll s.heap ys vs → ltKs xs ys = some r → A.units + min (NestedKey.depthAll xs) (NestedKey.depthAll ys) < cLine → Lx A s us vs r
  | [], [], _, _, _, _, r, hx, hy, h, _ => by
    cases hx; cases hy
    simp only [ltKs, Option.some.injEq] at h
    exact h.symm
  | [], _ :: _, _, _, _, _, r, hx, hy, h, _ => by
    cases hx
    cases hy
    simp only [ltKs, Option.some.injEq] at h
    exact h.symm
  | _ :: _, [], _, _, _, _, r, hx, hy, h, _ => by
    cases hx
    cases hy
    simp only [ltKs, Option.some.injEq] at h
    exact h.symm
  | x :: xs, y :: ys, A, s, _, _, r, hx, hy, h, hu => by
    cases hx with
    | cons h1 h2 =>
      cases hy with
      | cons k1 k2 =>
        simp only [NestedKey.depthAll] at hu
        refine ⟨NestedKey.beq x y, eqAt_key x y A s _ _ (OrdIs.nested _ _ h1) (OrdIs.nested _ _ k1) (by omega), fun e => ?_, fun e => ?_⟩
        · have exy : x = y := NestedKey.eq_of_beq _ _ e
          rw [ltKs, if_pos exy] at h
          exact ltKs_lx xs ys A s _ _ r h2 k2 h (by omega)
        · have exy : ¬ x = y := fun z => by rw [z, NestedKey.beq_self] at e; cases e
          rw [ltKs, if_neg exy] at h
          exact ltK_rc x y A s _ _ r h1 k1 h (by omega)
end
/-! ### data as keys that can be put in order -/
mutual
def toOrd : Dt → Option NestedKey
  | .non => some .none
  | .int i => some (.num i)
  | .str x => some (.text x)
  | .tup ds => (toOrds ds).map .tup
  | .bl _ => none
  | .adr _ => none
  | .ty _ => none
  | .ref _ => none
  | .lst _ => none
  | .lsk _ => none
  | .dic _ _ => none
  | .obj _ _ _ => none
  | .sett _ => none
def toOrds : List Dt → Option (List NestedKey)
  | [] => some []
  | d :: ds => match toOrd d, toOrds ds with
    | some k, some ks => some (k :: ks)
    | _, _ => none
end
theorem toOrds_cons {d : Dt} {ds : List Dt} {ns : List NestedKey} (h : toOrds (d :: ds) = some ns) : ∃ k r, toOrd d = some k ∧ toOrds ds = some r ∧ ns = k :: r := by
  rw [toOrds] at h
  cases h1 : toOrd d with
  | none => simp [h1] at h
  | some k =>
    cases h2 : toOrds ds with
    | none => simp [h1, h2] at h
    | some r =>
      simp only [h1, h2, Option.some.injEq] at h
      exact ⟨k, r, rfl, rfl, h.symm⟩
section
variable {X : Cx} {pins : List (Addr × Obj)} {σ : L2.St} {s : Shared} {w : Ws}
mutual
theorem Dv.ord (I : Inv X pins σ w.H s) : ∀ (d : Dt) (v : V) (n : NestedKey) (u : Value), Dv X.K X.w w v d → toOrd d = some n → RelV v u → OrdIs s.heap n u
  | .non, _, _, _, h, e, r => by cases h; simp [toOrd] at e; subst e; cases r; exact .none
  | .int i, _, _, _, h, e, r => by cases h; simp [toOrd] at e; subst e; obtain ⟨t, rfl⟩ := r; exact .int _ _
  | .str x, _, _, _, h, e, r => by cases h; simp [toOrd] at e; subst e; obtain ⟨t, rfl⟩ := r; exact .text _ _
  | .tup ds, _, n, _, h, e, r => by
    rw [toOrd, Option.map_eq_some_iff] at e
    obtain ⟨ns, e, rfl⟩ := e
    cases h with
    | tup h1 h2 =>
      cases r
      obtain ⟨its, rv, ⟨o, ho, hc, k, hd⟩, _⟩ := I.tuple h1
      exact .tup ho hc hd (by simpa using Dvs.ord I ds _ ns its h2 e rv)
  | .bl _, _, _, _, _, e, _ => by simp [toOrd] at e
  | .lst _, _, _, _, _, e, _ => by simp [toOrd] at e
  | .lsk _, _, _, _, _, e, _ => by simp [toOrd] at e
  | .adr _, _, _, _, _, e, _ => by simp [toOrd] at e
  | .ty _, _, _, _, _, e, _ => by simp [toOrd] at e
  | .ref _, _, _, _, _, e, _ => by simp [toOrd] at e
  | .dic _ _, _, _, _, _, e, _ => by simp [toOrd] at e
  | .obj _ _ _, _, _, _, _, e, _ => by simp [toOrd] at e
  | .sett _, _, _, _, _, e, _ => by simp [toOrd] at e
theorem Dvs.ord (I : Inv X pins σ w.H s) : ∀ (ds : List Dt) (vs : List V) (ns : List NestedKey) (us : List Value), Dvs X.K X.w w vs ds → toOrds ds = some ns → Vals vs us → OrdAll s.heap ns us
  | [], _, _, _, h, e, r => by cases h; simp [toOrds] at e; subst e; cases r; exact .nil
  | d :: ds, _, ns, _, h, e, r => by
    obtain ⟨k, ks, e1, e2, rfl⟩ := toOrds_cons e
    cases h with
    | cons h1 h2 =>
      cases r with
      | cons r1 r2 => exact .cons (Dv.ord I d _ k _ h1 e1 r1) (Dvs.ord I ds _ ks _ h2 e2 r2)
end
end
def ordN (d : Dt) : Option NestedKey := match toOrd d with
  | some n => if n.depth ≤ 16 then some n else none
  | none => none
theorem ordN_some {d : Dt} {n : NestedKey} (h : ordN d = some n) : toOrd d = some n ∧ n.depth ≤ 16 := by
  unfold ordN at h
  split at h
  · rename_i m hm
    split at h
    · rename_i hd
      cases h
      exact ⟨hm, hd⟩
    · cases h
  · cases h
/-- x < y -/
def ltO (a b : Dt) : Option Bool := match ordN a, ordN b with
  | some x, some y => ltK x y
  | _, _ => none
section
variable {X : Cx} {K : PySem.W.Frag} {W : World}
def rLtA (K : PySem.W.Frag) (W : World) (sw : Bool) : R2 := fun x y H Q => ∃ w a b r, w.H = H ∧ Ok K W w ∧ Dv K W w x a ∧ Dv K W w y b ∧ ltO a b = some r ∧ Q (.bl r) H
theorem op_ltA {k : Nat} (hr : Room k X.A) : OpR X (compareOp .Lt) (rLtA X.K X.w false) := by
  intro pins s σ H x y v u Q I rx ry h
  obtain ⟨w, a, b, r, rfl, ok, da, db, hi, q⟩ := h
  have hu := hr.un
  unfold ltO at hi
  split at hi
  · rename_i n m hn hm
    obtain ⟨hn1, hn2⟩ := ordN_some hn
    obtain ⟨hm1, hm2⟩ := ordN_some hm
    exact ltK_rc n m X.A s v u r (Dv.ord I a x n v da hn1 rx) (Dv.ord I b y m u db hm1 ry) hi (by omega) X.prog X.w X.xe _ ⟨.bl _, w.H, I, rfl, q⟩
  · cases hi
def ltD : Dt → Dt → Mem → Option (Dt × Mem) := fun a b M => pur ((ltO a b).map .bl) M
theorem lt_ok : R2Ok K W (rLtA K W false) ltD := by
  intro w x y a b d M' Q ok rx ry h f
  replace h := pur_eq h
  obtain ⟨rfl, h⟩ := h
  obtain ⟨r, hr, rfl⟩ := Option.map_eq_some_iff.mp h
  exact ⟨w, a, b, r, rfl, ok, rx, ry, hr, fin_here f ok (.bl _)⟩
theorem re_lt {a b : Expr} {pos : Pos} {k : Nat} {ma mb : EM} (hr : Room k X.A) (ha : RE X a ma) (hb : RE X b mb) : RE X (.Compare a [.Lt] [b] pos) (opE ltD ma mb) := re_cmp (op_ltA hr) lt_ok (nomark _) ha hb
theorem rt_lt {a b : Expr} {pos : Pos} {k : Nat} {ma mb : EM} (hr : Room k X.A) (ha : RE X a ma) (hb : RE X b mb) : RT X (.Compare a [.Lt] [b] pos) (blT (opE ltD ma mb)) := rt_cmp (op_ltA hr) lt_ok (nomark _) ha hb
end
end DL
/-! The data layer, part i: nested keys can be sorted. -/
namespace DL
open PySem PySem.Spec PyProof.Rows L2

/-! ### a key as a row of signs, for the sort's total order -/
mutual
def tkK : NestedKey → List (Int ⊕ List Nat)
  | .none => [.inl 0]
  | .num n => [.inl 1, .inl n]
  | .text x => [.inl 2, .inr x.cps.toList]
  | .tup ks => .inl 3 :: tkKs ks
def tkKs : List NestedKey → List (Int ⊕ List Nat)
  | [] => [.inl 0]
  | x :: xs => .inl 1 :: (tkK x ++ tkKs xs)
end
/-- two rows differ within both -/
def Dif (a b : List (Int ⊕ List Nat)) : Prop := ∃ p c d l m, a = p ++ c :: l ∧ b = p ++ d :: m ∧ c ≠ d
theorem Dif.app {a b : List (Int ⊕ List Nat)} (h : Dif a b) (x y : List (Int ⊕ List Nat)) : Dif (a ++ x) (b ++ y) := by
  obtain ⟨p, c, d, l, m, rfl, rfl, hn⟩ := h
  exact ⟨p, c, d, l ++ x, m ++ y, by simp, by simp, hn⟩
theorem Dif.pre {a b : List (Int ⊕ List Nat)} (h : Dif a b) (q : List (Int ⊕ List Nat)) : Dif (q ++ a) (q ++ b) := by
  obtain ⟨p, c, d, l, m, rfl, rfl, hn⟩ := h
  exact ⟨q ++ p, c, d, l, m, by simp, by simp, hn⟩
theorem Dif.head {c d : Int ⊕ List Nat} {l m : List (Int ⊕ List Nat)} (h : c ≠ d) : Dif (c :: l) (d :: m) := ⟨[], c, d, l, m, rfl, rfl, h⟩
theorem Dif.tail {c : Int ⊕ List Nat} {l m : List (Int ⊕ List Nat)} (h : Dif l m) : Dif (c :: l) (c :: m) := h.pre [c]
theorem str_cps {x y : Str} (h : x.cps.toList = y.cps.toList) : x = y := PySem.W.str_of_cps h
mutual
theorem tk_diff : ∀ x y : NestedKey, x ≠ y → Dif (tkK x) (tkK y)
  | .none, y, h => by cases y <;> simp only [tkK] <;> first | exact absurd rfl h | exact Dif.head (by simp)
  | .num i, y, h => by
    cases y <;> simp only [tkK]
    case num j => exact Dif.tail (Dif.head fun e => h (by rw [Sum.inl.inj e]))
    all_goals exact Dif.head (by simp)
  | .text i, y, h => by
    cases y <;> simp only [tkK]
    case text j => exact Dif.tail (Dif.head fun e => h (by rw [str_cps (Sum.inr.inj e)]))
    all_goals exact Dif.head (by simp)
  | .tup xs, y, h => by
    cases y <;> simp only [tkK]
    case tup ys => exact Dif.tail (tks_diff xs ys fun e => h (by rw [e]))
    all_goals exact Dif.head (by simp)
theorem tks_diff : ∀ xs ys : List NestedKey, xs ≠ ys → Dif (tkKs xs) (tkKs ys)
  | [], [], h => absurd rfl h
  | [], _ :: _, _ => by simp only [tkKs]; exact Dif.head (by simp)
  | _ :: _, [], _ => by simp only [tkKs]; exact Dif.head (by simp)
  | x :: xs, y :: ys, h => by
    simp only [tkKs]
    by_cases e : x = y
    · subst e
      exact Dif.tail ((tks_diff xs ys fun e => h (by rw [e])).pre _)
    · exact Dif.tail ((tk_diff x y e).app _ _)
end
abbrev blL (a b : List (Int ⊕ List Nat)) : Bool := lexLt itemOrd a b
theorem bl_dif {a b : List (Int ⊕ List Nat)} (h : Dif a b) (x y : List (Int ⊕ List Nat)) : blL (a ++ x) (b ++ y) = blL a b := by
  obtain ⟨p, c, d, l, m, rfl, rfl, hn⟩ := h
  unfold blL
  rw [List.append_assoc, List.append_assoc, PySem.W.lex_pre, PySem.W.lex_pre, List.cons_append, List.cons_append, lex_diff (O := itemOrd) hn, lex_diff (O := itemOrd) hn]
theorem bl_tail (c : Int ⊕ List Nat) (l m : List (Int ⊕ List Nat)) : blL (c :: l) (c :: m) = blL l m := lex_self (O := itemOrd) c l m
theorem bl_one (c d : Int ⊕ List Nat) : blL [c] [d] = itemLt c d := by
  unfold blL
  rw [lex_cons]
  show (itemLt c d || (!itemLt d c && false)) = _
  simp
mutual
theorem lt_tk : ∀ (x y : NestedKey) (r : Bool), ltK x y = some r → blL (tkK x) (tkK y) = r
  | .none, y, r, h => by cases y <;> simp [ltK] at h
  | .num i, y, r, h => by
    cases y <;> simp only [ltK, Option.some.injEq, reduceCtorEq] at h
    subst h
    simp only [tkK]
    rw [bl_tail, bl_one]
    rfl
  | .text i, y, r, h => by
    cases y <;> simp only [ltK, Option.some.injEq, reduceCtorEq] at h
    subst h
    simp only [tkK]
    rw [bl_tail, bl_one]
    rfl
  | .tup xs, y, r, h => by
    cases y with
    | tup ys =>
      rw [ltK] at h
      simp only [tkK]
      rw [bl_tail]
      exact lts_tk xs ys r h
    | _ => simp [ltK] at h
theorem lts_tk : ∀ (xs ys : List NestedKey) (r : Bool), ltKs xs ys = some r → blL (tkKs xs) (tkKs ys) = r
  | [], [], r, h => by
    simp only [ltKs, Option.some.injEq] at h
    subst h
    exact lex_irrefl (O := itemOrd) _
  | [], _ :: _, r, h => by
    simp only [ltKs, Option.some.injEq] at h
    subst h
    simp only [tkKs]
    unfold blL
    rw [lex_diff (O := itemOrd) (by simp)]
    rfl
  | _ :: _, [], r, h => by
    simp only [ltKs, Option.some.injEq] at h
    subst h
    simp only [tkKs]
    unfold blL
    rw [lex_diff (O := itemOrd) (by simp)]
    rfl
  | x :: xs, y :: ys, r, h => by
    simp only [tkKs]
    rw [bl_tail]
    rw [ltKs] at h
    split at h
    · rename_i e
      subst e
      unfold blL
      rw [PySem.W.lex_pre]
      exact lts_tk xs ys r h
    · rename_i e
      rw [bl_dif (tk_diff x y e)]
      exact lt_tk x y r h
end
/-! ### what list.sort asks of its keys -/
/-- the kind that list.sort finds: of the keys, or of their first items -/
def hdK : NestedKey → Option Nat
  | .num _ => some 11
  | .text _ => some 12
  | .tup (.none :: _) => some 0
  | .tup (.num _ :: _) => some 1
  | .tup (.text _ :: _) => some 2
  | .tup (.tup _ :: _) => some 3
  | _ => none
def srtB (ns : List NestedKey) : Bool := (match ns with
  | [] => true
  | n :: _ => (hdK n).isSome && ns.all fun m => hdK m == hdK n) && ns.all fun x => decide (x.depth ≤ 16) && ns.all fun y => (ltK x y).isSome
theorem srtB_depth {ns : List NestedKey} (h : srtB ns = true) {x : NestedKey} (hx : x ∈ ns) : x.depth ≤ 16 := by
  unfold srtB at h
  rw [Bool.and_eq_true, List.all_eq_true] at h
  have := h.2 x hx
  rw [Bool.and_eq_true] at this
  simpa using this.1
theorem srtB_lt {ns : List NestedKey} (h : srtB ns = true) {x y : NestedKey} (hx : x ∈ ns) (hy : y ∈ ns) : ∃ r, ltK x y = some r := by
  unfold srtB at h
  rw [Bool.and_eq_true, List.all_eq_true] at h
  have := h.2 x hx
  rw [Bool.and_eq_true, List.all_eq_true] at this
  exact Option.isSome_iff_exists.mp (this.2 y hy)
theorem srtB_hd {n : NestedKey} {ns : List NestedKey} (h : srtB (n :: ns) = true) : ∃ t, ∀ m ∈ n :: ns, hdK m = some t := by
  unfold srtB at h
  rw [Bool.and_eq_true, Bool.and_eq_true, List.all_eq_true] at h
  obtain ⟨t, ht⟩ := Option.isSome_iff_exists.mp h.1.1
  refine ⟨t, fun m hm => ?_⟩
  have := h.1.2 m hm
  rw [ht] at this
  simpa using this
noncomputable def ordKind (h : Heap) (ns : List NestedKey) : PyProof.Rows.KeyKind where
  toKeyOrd := listOrd itemOrd
  keyOf v := open Classical in if q : ∃ n, n ∈ ns ∧ OrdIs h n v then some (tkK q.choose) else none
  dflt := ([] : List (Int ⊕ List Nat))
theorem ordKind_some {h : Heap} {ns : List NestedKey} {v : Value} {n : NestedKey} (hn : n ∈ ns) (r : OrdIs h n v) : (ordKind h ns).keyOf v = some (tkK n) := by
  have q : ∃ n, n ∈ ns ∧ OrdIs h n v := ⟨n, hn, r⟩
  have e : (ordKind h ns).keyOf v = some (tkK q.choose) := by
    show (open Classical in if q : ∃ n, n ∈ ns ∧ OrdIs h n v then some (tkK q.choose) else none) = _
    rw [dif_pos q]
  rw [e, NestedIs.inj _ _ _ (OrdIs.nested _ _ q.choose_spec.2) (OrdIs.nested _ _ r)]
theorem ordKind_inv {h : Heap} {ns : List NestedKey} {v : Value} {k : List (Int ⊕ List Nat)} (e : (ordKind h ns).keyOf v = some k) : ∃ n, n ∈ ns ∧ OrdIs h n v ∧ k = tkK n := by
  by_cases q : ∃ n, n ∈ ns ∧ OrdIs h n v
  · have e' : (ordKind h ns).keyOf v = some (tkK q.choose) := by
      show (open Classical in if q : ∃ n, n ∈ ns ∧ OrdIs h n v then some (tkK q.choose) else none) = _
      rw [dif_pos q]
    obtain ⟨h1, h2⟩ := q.choose_spec
    rw [e'] at e
    exact ⟨_, h1, h2, (Option.some.inj e).symm⟩
  · have e' : (ordKind h ns).keyOf v = none := by
      show (open Classical in if q : ∃ n, n ∈ ns ∧ OrdIs h n v then some (tkK q.choose) else none) = _
      rw [dif_neg q]
      rfl
    rw [e'] at e
    exact absurd e (by simp)
theorem OrdAll.left {h : Heap} : ∀ {ns : List NestedKey} {vs : List Value} {v : Value}, OrdAll h ns vs → v ∈ vs → ∃ n, n ∈ ns ∧ OrdIs h n v
  | _, _, _, .nil, hv => absurd hv (by simp)
  | _, _, v, .cons r t, hv => by
    rcases List.mem_cons.mp hv with rfl | hv
    · exact ⟨_, List.mem_cons_self, r⟩
    · obtain ⟨n, h1, h2⟩ := t.left hv
      exact ⟨n, List.mem_cons_of_mem _ h1, h2⟩
theorem OrdAll.length {h : Heap} : ∀ {ns : List NestedKey} {vs : List Value}, OrdAll h ns vs → vs.length = ns.length
  | _, _, .nil => rfl
  | _, _, .cons _ t => congrArg (· + 1) t.length
open PySem.Calls PySem.W in
theorem looks_ord {M : Model} {h : Heap} {n : NestedKey} {v : Value} (r : OrdIs h n v) : Looks M h (typeOf v) (match n with | .none => .type "NoneType" | .num _ => .type "int" | .text _ => .type "str" | .tup _ => .type "tuple") := by
  cases r with
  | none => exact Looks.of_pure rfl
  | int _ _ => exact Looks.of_pure rfl
  | text _ _ => exact Looks.of_pure rfl
  | tup h1 h2 h3 h4 =>
    show Looks M h (typeOf (Value.ref _)) (Value.type "tuple")
    exact h2 ▸ (Looks.ld h1).andThen .now
section
variable {prog : Program} {w : World} {A : Around} {E : Value → Shared → Prop} {s : Shared}
theorem oneLt_ord {f : Bool} {x y : NestedKey} {a b : Value} {r : Bool} {Q : Bool → Shared → Prop} (hx : OrdIs s.heap x a) (hy : OrdIs s.heap y b) (h : ltK x y = some r) (hu : A.units + min x.depth y.depth < cLine) (hf : f = true → ∀ t, x ≠ .tup t) (q : Q r s) : wpAny (model prog w) A (oneLt' f a b) Q E s := by
  cases f with
  | false =>
    rw [oneLt'_eq]
    simp only [Bool.false_eq_true, if_false]
    exact wpAny_bind (ltK_rc x y A s a b r hx hy h hu prog w E _ (wpAny_truthy_bool q))
  | true =>
    cases x with
    | none => cases y <;> simp [ltK] at h
    | num i =>
      cases y <;> simp only [ltK, Option.some.injEq, reduceCtorEq] at h
      subst h
      cases hx
      cases hy
      exact oneLt_int q
    | text i =>
      cases y <;> simp only [ltK, Option.some.injEq, reduceCtorEq] at h
      subst h
      cases hx
      cases hy
      exact oneLt_str q
    | tup t => exact absurd rfl (hf rfl t)
theorem katLex_ord {b fin : Bool} {r : Bool} {Q : Bool → Shared → Prop} : ∀ (xs ys : List NestedKey) (i : Nat) (vs ws : List Value), OrdAll s.heap xs vs → OrdAll s.heap ys ws → ltKs xs ys = some r →
    A.units + min (NestedKey.depthAll xs) (NestedKey.depthAll ys) < cLine → (b = true → i = 0 → ∀ x l t, xs = x :: l → x ≠ .tup t) → fin = decide (xs.length < ys.length) → Q r s → PySem.W.KatLex prog w A b fin Q (vs.zip ws) i s
  | [], [], i, _, _, ra, rb, h, _, _, hf, hq => by
    cases ra
    cases rb
    simp only [ltKs, Option.some.injEq] at h
    subst h
    have e : fin = false := by rw [hf]; rfl
    subst e
    exact PySem.W.kat_nil hq
  | [], y :: ys, i, _, _, ra, rb, h, _, _, hf, hq => by
    cases ra
    simp only [ltKs, Option.some.injEq] at h
    subst h
    have e : fin = true := by rw [hf]; exact decide_eq_true (Nat.succ_pos _)
    subst e
    rw [List.zip_nil_left]
    exact PySem.W.kat_nil hq
  | x :: xs, [], i, _, _, ra, rb, h, _, _, hf, hq => by
    cases rb
    simp only [ltKs, Option.some.injEq] at h
    subst h
    have e : fin = false := by rw [hf]; exact decide_eq_false (Nat.not_lt_zero _)
    subst e
    rw [List.zip_nil_right]
    exact PySem.W.kat_nil hq
  | x :: xs, y :: ys, i, _, _, ra, rb, h, hu, hb, hf, hq => by
    have hf' : fin = decide (xs.length < ys.length) := by
      rw [hf]
      simp only [List.length_cons, Nat.add_lt_add_iff_right]
    simp only [NestedKey.depthAll] at hu
    cases ra with
    | cons r1 rs =>
      cases rb with
      | cons k1 ks =>
        rw [List.zip_cons_cons]
        refine PySem.W.kat_cons (eqAt_key x y A s _ _ (OrdIs.nested _ _ r1) (OrdIs.nested _ _ k1) (by omega) prog w _ _ ?_)
        rw [ltKs] at h
        by_cases e : x = y
        · rw [if_pos e] at h
          rw [e, NestedKey.beq_self]
          exact PySem.W.kat_yes (katLex_ord xs ys (i + 1) _ _ rs ks h (by omega) (fun _ hi => absurd hi (Nat.succ_ne_zero i)) hf' hq)
        · rw [if_neg e] at h
          have e' : NestedKey.beq x y = false := by
            rw [← NestedKey.decide_eq]
            exact decide_eq_false e
          rw [e']
          refine PySem.W.kat_no (oneLt_ord r1 k1 h (by omega) (fun hbi t => ?_) hq)
          rw [Bool.and_eq_true] at hbi
          exact hb hbi.1 (by simpa using hbi.2) x xs t rfl
theorem each_katT {h : Heap} : ∀ {ns : List NestedKey} {vs : List Value}, OrdAll h ns vs → (∀ n ∈ ns, ∃ x r, n = .tup (x :: r)) → ∃ fs, PySem.W.KatTups h vs fs ∧ fs.length = vs.length ∧ ∀ f ∈ fs, ∃ x r, NestedKey.tup (x :: r) ∈ ns ∧ OrdIs h x f
  | _, _, .nil, _ => ⟨[], PySem.W.KatTups.nil, rfl, fun f hf => absurd hf (by simp)⟩
  | _, _, .cons (k := n) r t, ht => by
    obtain ⟨fs, h1, h2, h3⟩ := each_katT t fun d hd => ht d (List.mem_cons_of_mem _ hd)
    obtain ⟨x, rest, rfl⟩ := ht n List.mem_cons_self
    cases r with
    | @tup a o xs n _ ho hc hd hr =>
      cases q : xs.toList with
      | nil =>
        rw [q] at hr
        cases hr
      | cons f fr =>
        rw [q] at hr
        cases hr with
        | cons r1 r2 =>
          have hf : xs[0]? = some f := by rw [← Array.getElem?_toList, q]; rfl
          refine ⟨f :: fs, PySem.W.KatTups.cons ho hc hd hf h1, by rw [List.length_cons, List.length_cons, h2], fun g hg => ?_⟩
          rcases List.mem_cons.mp hg with rfl | hg
          · exact ⟨x, rest, List.mem_cons_self, r1⟩
          · obtain ⟨x', r', m1, m2⟩ := h3 g hg
            exact ⟨x', r', List.mem_cons_of_mem _ m1, m2⟩
theorem hd_tup {n : NestedKey} {t : Nat} (h : hdK n = some t) (ht : t ≤ 3) : ∃ x r, n = .tup (x :: r) ∧ t = (match x with | .none => 0 | .num _ => 1 | .text _ => 2 | .tup _ => 3) := by
  unfold hdK at h
  split at h <;> first | (cases h; omega) | (cases h; exact ⟨_, _, rfl, rfl⟩) | cases h
theorem sortsAt_ord {ns : List NestedKey} {vs : List Value} (h : OrdAll s.heap ns vs) (hb : srtB ns = true) (hu : A.units + 20 < cLine) : PySem.W.SortsAt prog w A s (ordKind s.heap ns) vs := by
  refine ⟨fun v hv => ?_, ?_⟩
  · obtain ⟨n, hn, r⟩ := h.left hv
    exact ⟨_, ordKind_some hn r⟩
  · cases ns with
    | nil =>
      cases h
      exact ⟨general', fun E x y a b Q ha _ _ => (by
        obtain ⟨d, hd, _⟩ := ordKind_inv ha
        exact absurd hd (by simp)), fun h2 => absurd h2 (by simp)⟩
    | cons n0 nr =>
      obtain ⟨t, ht⟩ := srtB_hd hb
      have all : ∀ n ∈ n0 :: nr, (t ≤ 3 ∧ ∃ x r, n = .tup (x :: r) ∧ t = (match x with | .none => 0 | .num _ => 1 | .text _ => 2 | .tup _ => 3)) ∨ (t = 11 ∧ ∃ i, n = .num i) ∨ (t = 12 ∧ ∃ x, n = .text x) := by
        intro n hn
        have h1 := ht n hn
        by_cases h3 : t ≤ 3
        · exact .inl ⟨h3, hd_tup h1 h3⟩
        · unfold hdK at h1
          split at h1 <;> first | cases h1 | skip
          · exact .inr (.inl ⟨rfl, _, rfl⟩)
          · exact .inr (.inr ⟨rfl, _, rfl⟩)
          all_goals omega
      by_cases h3 : t ≤ 3
      · have tups : ∀ n ∈ n0 :: nr, ∃ x r, n = .tup (x :: r) ∧ t = (match x with | .none => 0 | .num _ => 1 | .text _ => 2 | .tup _ => 3) := fun n hn => by
          rcases all n hn with q | q | q
          · exact q.2
          · omega
          · omega
        obtain ⟨fs, t1, t2, t3⟩ := each_katT h fun n hn => let ⟨x, r, e, _⟩ := tups n hn; ⟨x, r, e⟩
        let T : Value := if t = 0 then .type "NoneType" else if t = 1 then .type "int" else if t = 2 then .type "str" else .type "tuple"
        have hT2 : (T == T) = true := beq_self_eq_true _
        have hTt : (T != Value.type "tuple") = true → t ≠ 3 := fun q e => by
          have : T = Value.type "tuple" := by show (if t = 0 then _ else if t = 1 then _ else if t = 2 then _ else _) = _; rw [if_neg (by omega), if_neg (by omega), if_neg (by omega)]
          rw [this] at q
          exact absurd q (by simp)
        refine ⟨tuples' (T != Value.type "tuple"), ?_, fun h2 E Q hq => ?_⟩
        · intro E x y a b Q ha hb' hq
          obtain ⟨n, hn, ra, rfl⟩ := ordKind_inv ha
          obtain ⟨m, hm, rb, rfl⟩ := ordKind_inv hb'
          obtain ⟨r, hr⟩ := srtB_lt hb hn hm
          have hq' : Q (blL (tkK n) (tkK m)) s := hq
          rw [lt_tk n m r hr] at hq'
          have dn := srtB_depth hb hn
          obtain ⟨x1, r1, rfl, e1⟩ := tups n hn
          obtain ⟨x2, r2, rfl, e2⟩ := tups m hm
          rw [ltK] at hr
          simp only [NestedKey.depth] at dn
          cases ra with
          | tup h1 h2 h3' h4 =>
            cases rb with
            | tup k1 k2 k3 k4 =>
              have n1 := OrdAll.length h4
              have n2 := OrdAll.length k4
              rw [Array.length_toList] at n1 n2
              refine PySem.W.kat_lt h1 h3' k1 k3 (katLex_ord (x1 :: r1) (x2 :: r2) 0 _ _ h4 k4 hr (by omega) (fun hbt _ x l t ex => ?_) (by rw [n1, n2]) hq')
              obtain ⟨rfl, rfl⟩ := List.cons.inj ex
              rintro rfl
              exact hTt hbt e1
        · have hl : vs.length = (n0 :: nr).length := OrdAll.length h
          refine PySem.W.kat_kind (T := T) t1 (by rw [t2, hl]; simp) (fun f hf => ?_) hT2 hq
          obtain ⟨x, r, m1, m2⟩ := t3 f hf
          obtain ⟨x', r', e, et⟩ := tups _ m1
          cases e
          have := looks_ord (M := model prog w) m2
          cases x with
          | none =>
            have : T = Value.type "NoneType" := by show (if t = 0 then _ else _) = _; rw [if_pos et]
            rw [this]; assumption
          | num _ =>
            have : T = Value.type "int" := by show (if t = 0 then _ else if t = 1 then _ else _) = _; rw [if_neg (by rw [et]; simp), if_pos et]
            rw [this]; assumption
          | text _ =>
            have : T = Value.type "str" := by show (if t = 0 then _ else if t = 1 then _ else if t = 2 then _ else _) = _; rw [if_neg (by rw [et]; simp), if_neg (by rw [et]; simp), if_pos et]
            rw [this]; assumption
          | tup _ =>
            have : T = Value.type "tuple" := by show (if t = 0 then _ else if t = 1 then _ else if t = 2 then _ else _) = _; rw [if_neg (by rw [et]; simp), if_neg (by rw [et]; simp), if_neg (by rw [et]; simp)]
            rw [this]; assumption
      · have flat : ∀ n ∈ n0 :: nr, ∀ l, n ≠ .tup l := fun n hn l e => by
          rcases all n hn with q | ⟨_, i, q⟩ | ⟨_, i, q⟩
          · exact h3 q.1
          · rw [e] at q; cases q
          · rw [e] at q; cases q
        refine ⟨oneType', ?_, fun h2 E Q hq => ?_⟩
        · intro E x y a b Q ha hb' hq
          obtain ⟨n, hn, ra, rfl⟩ := ordKind_inv ha
          obtain ⟨m, hm, rb, rfl⟩ := ordKind_inv hb'
          obtain ⟨r, hr⟩ := srtB_lt hb hn hm
          have hq' : Q (blL (tkK n) (tkK m)) s := hq
          rw [lt_tk n m r hr] at hq'
          have dn := srtB_depth hb hn
          rw [keyLt'_oneType]
          exact oneLt_ord ra rb hr (by omega) (fun _ => flat n hn) hq'
        · rcases all n0 List.mem_cons_self with q | ⟨e1, _⟩ | ⟨e1, _⟩
          · exact absurd q.1 h3
          · refine PySem.W.kas_kind (T := .type "int") h2 (fun v hv => ?_) (by decide +kernel) (beq_self_eq_true _) hq
            obtain ⟨n, hn, r⟩ := h.left hv
            rcases all n hn with q | ⟨_, i, rfl⟩ | ⟨e2, _⟩
            · exact absurd q.1 h3
            · exact looks_ord r
            · rw [e1] at e2; cases e2
          · refine PySem.W.kas_kind (T := .type "str") h2 (fun v hv => ?_) (by decide +kernel) (beq_self_eq_true _) hq
            obtain ⟨n, hn, r⟩ := h.left hv
            rcases all n hn with q | ⟨e2, _⟩ | ⟨_, i, rfl⟩
            · exact absurd q.1 h3
            · rw [e1] at e2; cases e2
            · exact looks_ord r
end
end DL
/-! The data layer, part j: sorted, with and without a key that is a def. -/
namespace DL
open PySem PySem.Spec PyProof.Rows L2

section
variable {K : PySem.W.Frag} {W : World}
theorem Ext0.updM {w : Ws} {D : Addr} {o o0 : HO} (h : D ∈ w.ex) (hD : w.H D = some o0) (hm : Mut (some o0)) : Ext0 w (w.upd D o) := by
  refine ⟨⟨[], by simp [Ws.upd]⟩, fun a u e n => ?_, fun a u e n => ⟨?_, n.nl, n.nx⟩⟩
  · have : a ≠ D := by
      rintro rfl
      rw [hD] at e; cases e
      exact n hm
    show L2.upd w.H D o a = some u
    rw [upd_ne this]; exact e
  · have : a ≠ D := by
      rintro rfl
      exact n.nx h
    show L2.upd w.H D o a = some u
    rw [upd_ne this]; exact e
theorem Ok.updM {w : Ws} (ok : Ok K W w) {D : Addr} {o o0 : HO} (h : D ∈ w.ex) (hD : w.H D = some o0) (hm : Mut (some o0)) : Ok K W (w.upd D o) := by
  have all : ∀ b, (∃ u, w.H b = some u) → ∃ u, L2.upd w.H D o b = some u := fun b hb => by
    by_cases e : b = D
    · subst e; exact ⟨o, upd_same⟩
    · rw [upd_ne e]; exact hb
  refine ⟨ok.len, ok.nd, fun a ha => all a (ok.has a ha), fun a ha => ⟨(ok.exl a ha).1, all a (ok.exl a ha).2⟩, fun i a c h1 h2 => ?_⟩
  refine CellAt.mono0 (Ext0.updM h hD hm) ?_ (ok.cells i a c h1 h2)
  show L2.upd w.H D o a = w.H a
  refine upd_ne ?_
  rintro rfl
  exact (ok.exl a h).1 (List.mem_of_getElem? h1)
theorem Room.in2 {k : Nat} {A : Around} (r : Room (k + 1) A) : Room k A.in1.in1 := ⟨r.hd, by have := r.dp; show A.depth + 3 * k + 5 < _; omega, by have := r.un; show A.units + 1 + 1 + 16 * k + 200 < _; omega⟩
end

/-! ### data -/
/-- the items ds by their keys ns -/
def sortKD (ns : List NestedKey) (ds : List Dt) : List Dt := ((ds.zip ns).mergeSort (PySem.W.sortLe (listOrd itemOrd) false fun p => tkK p.2)).map (·.1)
def mapF (F : FM) : List Dt → Mem → Option (List Dt × Mem)
  | [], M => some ([], M)
  | d :: ds, M => thn1 (F [d] M) fun k M1 => thn1 (mapF F ds M1) fun ks M2 => some (k :: ks, M2)
theorem mapF_length {F : FM} : ∀ {ds : List Dt} {M : Mem} {ks : List Dt} {M' : Mem}, mapF F ds M = some (ks, M') → ks.length = ds.length
  | [], M, ks, M', h => by cases h; rfl
  | d :: ds, M, ks, M', h => by
    obtain ⟨k, M1, h1, h⟩ := thn1_eq h
    obtain ⟨r, M2, h2, h⟩ := thn1_eq h
    cases h
    rw [List.length_cons, List.length_cons, mapF_length h2]
def ordsN (ks : List Dt) : Option (List NestedKey) := match toOrds ks with
  | some ns => if srtB ns = true then some ns else none
  | none => none
theorem ordsN_some {ks : List Dt} {ns : List NestedKey} (h : ordsN ks = some ns) : toOrds ks = some ns ∧ srtB ns = true := by
  unfold ordsN at h
  split at h
  · rename_i m hm
    split at h
    · rename_i hs
      cases h
      exact ⟨hm, hs⟩
    · cases h
  · cases h
theorem toOrds_length : ∀ {ks : List Dt} {ns : List NestedKey}, toOrds ks = some ns → ns.length = ks.length
  | [], ns, h => by simp [toOrds] at h; subst h; rfl
  | d :: ds, ns, h => by
    obtain ⟨k, r, h1, h2, rfl⟩ := toOrds_cons h
    rw [List.length_cons, List.length_cons, toOrds_length h2]
section
variable {K : PySem.W.Frag} {W : World}
theorem eachZ {w : Ws} : ∀ {xs : List V} {ds : List Dt} {us : List Value} {ns : List NestedKey}, Dvs K W w xs ds → Vals xs us → ns.length = ds.length → PySem.W.EachIs (fun v (p : Dt × NestedKey) => ∃ x, RelV x v ∧ Dv K W w x p.1) us (ds.zip ns)
  | _, _, _, [], .nil, .nil, _ => .nil
  | _, _, _, n :: ns, .cons r t, .cons v vs, hl => .cons ⟨_, v, r⟩ (eachZ t vs (by simpa using hl))
theorem eachK {h : Heap} {ns0 : List NestedKey} : ∀ {us : List Value} {ns : List NestedKey} {ds : List Dt}, OrdAll h ns us → (∀ n ∈ ns, n ∈ ns0) → ns.length = ds.length → PySem.W.EachIs (fun v (p : Dt × NestedKey) => (ordKind h ns0).keyOf v = some (tkK p.2)) us (ds.zip ns)
  | _, _, [], .nil, _, _ => .nil
  | _, _, d :: ds, .cons r t, hm, hl => .cons (ordKind_some (hm _ List.mem_cons_self) r) (eachK t (fun n hn => hm n (List.mem_cons_of_mem _ hn)) (by simpa using hl))
theorem eachD {w : Ws} {bs : List (Dt × NestedKey)} {us : List Value} (h : PySem.W.EachIs (fun v (p : Dt × NestedKey) => ∃ x, RelV x v ∧ Dv K W w x p.1) us bs) : ∃ xs, Vals xs us ∧ Dvs K W w xs (bs.map (·.1)) := by
  induction h with
  | nil => exact ⟨[], .nil, .nil⟩
  | cons h1 _ ih =>
    obtain ⟨x, r, d⟩ := h1
    obtain ⟨xs, rs, ds⟩ := ih
    exact ⟨x :: xs, .cons r rs, .cons d ds⟩
theorem sorted_data {w : Ws} {h : Heap} {xs : List V} {ds : List Dt} {us kv : List Value} {ns : List NestedKey} (r : Dvs K W w xs ds) (rv : Vals xs us) (o : OrdAll h ns kv) (hl : ns.length = ds.length) : ∃ ys, Vals ys (PySem.W.sortVals (ordKind h ns) false kv us) ∧ Dvs K W w ys (sortKD ns ds) :=
  eachD (PySem.W.sortVals_each (κ := ordKind h ns) (rev := false) (ks := kv) (fun p : Dt × NestedKey => tkK p.2) (eachZ r rv hl) (eachK o (fun _ h => h) hl))
end

/-! ### sorted, over the heap -/
section
variable {prog : Program} {w : World} {A : Around} {E : Value → Shared → Prop} {s : Shared}
theorem sorted_any {v : Value} {kw : List (Str × Value)} {Q : Value → Shared → Prop} (ha1 : argsOk "sorted" ⟨[v], kw⟩) (ha2 : ∀ x, argsOk "list.sort" ⟨[.ref x], kw⟩)
    (hC : wpAny (model prog w) A.in1 (collect v) (fun vs s1 => vs.length ≤ sizeLine ∧ ∀ E', wpAny (model prog w) A.in1.in1 (Builtin.«list.sort» ⟨[.ref s1.heap.objs.size], kw⟩) (fun f s' => f = .done (.ret .none) ∧ Q (.ref s1.heap.objs.size) s') E' { s1 with heap := s1.heap.push (seqObj "list" vs.toArray 0) }) E s) :
    wpAny (model prog w) A (call (.builtin "sorted") [v] kw) Q E s := by
  refine call_function_entry_kw kind_sorted plain_sorted entry_sorted ha1 ?_
  unfold Builtin.«sorted»
  refine wpAny_bind (m := checkCount "sorted" 1 1 _) (wpAny_pure ?_)
  refine wpAny_bind (wpAny_mono hC (fun vs s1 hq => ?_) fun _ _ e => e)
  obtain ⟨hz, hb⟩ := hq
  refine wpAny_bind (wpAny_newList ?_ hz)
  refine wpAny_bind (wpAny_holding (wpAny_call_entry_kw slot_list_sort ⟨_, Heap.get?_push_size _ rfl, rfl⟩ entry_list_sort ?body (ha2 _)))
  case body =>
    show wpAny (model prog w) A.in1.in1 (Builtin.«list.sort» ⟨[.ref s1.heap.objs.size], kw⟩) _ _ _
    refine wpAny_mono (hb _) (fun f s' hf => ?_) fun _ _ e => e
    obtain ⟨rfl, hq⟩ := hf
    exact ⟨_, rfl, wpAny_pure ⟨_, rfl, hq⟩⟩
theorem ksk_end_at {κ : PyProof.Rows.KeyKind} {a kS : Addr} {b : Bool} {vs : List Value} {keys : Array Value} {e e1 : Nat} {P : PySem.Fin → Shared → Prop} (nk : s.heap.get? kS = some (seqObj "list" keys e)) (na : s.heap.get? a = some (seqObj "list" #[] e1)) (hka : kS ≠ a)
    (S : PySem.W.SortsAt prog w A s κ keys.toList) (hsz : keys.size = vs.length) (hZ : vs.length ≤ sizeLine)
    (h : ∀ tk, P (.done (.ret .none)) { s with heap := (s.heap.update kS (Obj.mapSeq fun _ => (#[] : Array Value))).update a (Obj.mapSeq fun _ => (PySem.W.sortVals κ b keys.toList vs).toArray), toks := tk }) :
    wpAny (model prog w) A (ksk_end a b vs.toArray e1 (.ref kS) keys) P E s := by
  obtain ⟨kd, h1, h2⟩ := S.kind
  have hkl : keys.toList.length = vs.length := by
    rw [Array.length_toList]
    exact hsz
  have hK : PyProof.Rows.KeysOf κ (keys.zip vs.toArray) := PySem.W.keysOf_zip S.keys
  have hol : (PySem.W.sortVals κ b keys.toList vs).length = vs.length := PySem.W.sortVals_length b hkl
  have hstart : (if b = true then (keys.zip vs.toArray).reverse else keys.zip vs.toArray).Perm (keys.zip vs.toArray) := by
    cases b with
    | false => exact Array.Perm.refl _
    | true => exact Array.perm_iff_toList_perm.mpr (by rw [if_pos rfl, Array.toList_reverse]; exact List.reverse_perm _)
  have hss : (if b = true then (keys.zip vs.toArray).reverse else keys.zip vs.toArray).size = vs.length := by rw [hstart.size_eq, Array.size_zip, hsz, List.size_toArray, Nat.min_self]
  have fin : ∀ st' : SortSt, (arrOf st').Perm (if b = true then (keys.zip vs.toArray).reverse else keys.zip vs.toArray) → SortedToK κ (arrOf st') (if b = true then (keys.zip vs.toArray).reverse else keys.zip vs.toArray).size →
      Stable κ (arrOf st') (if b = true then (keys.zip vs.toArray).reverse else keys.zip vs.toArray) → (if b = true then ((arrOf st').map (·.2)).reverse else (arrOf st').map (·.2)) = (PySem.W.sortVals κ b keys.toList vs).toArray := by
    intro st' hp hs ht
    have e := PySem.W.sort_out (rev := b) (keys := keys) (items := vs.toArray) (xs := arrOf st') (κ := κ) hK hp hs ht
    have e' := congrArg List.toArray e
    rw [Array.toArray_toList] at e'
    exact e'
  have tail : ∀ st' : SortSt, failedOf st' = none → (if b = true then ((arrOf st').map (·.2)).reverse else (arrOf st').map (·.2)) = (PySem.W.sortVals κ b keys.toList vs).toArray → wpAny (model prog w) A (ksk_tail a b e1 (.ref kS) st') P E s := by
    intro st' hfl ho
    have s1 := Heap.SameBut.update s.heap kS (Obj.mapSeq fun _ => (#[] : Array Value))
    have na1 : (s.heap.update kS (Obj.mapSeq fun _ => (#[] : Array Value))).get? a = some (seqObj "list" #[] e1) := (s1.2 a hka.symm).trans na
    have hz2 : (PySem.W.sortVals κ b keys.toList vs).toArray.size ≤ sizeLine + 1 := by
      rw [List.size_toArray, hol]
      exact Nat.le_succ_of_le hZ
    unfold ksk_tail
    try dsimp only
    rw [ho]
    refine wpAny_bind (listUpdate_at nk rfl ?_ (by rw [hsz]; exact hZ) (Nat.zero_le _))
    refine wpAny_bind (wpAny_letGo ?_)
    refine wpAny_bind (seqEpoch_at na1 rfl ?_)
    refine wpAny_bind (listUpdate_at na1 rfl ?_ (Nat.zero_le _) hz2)
    rw [hfl]
    simp only [bne_self_eq_false, Bool.false_eq_true, if_false]
    exact wpAny_pure (h _)
  have step : ∀ t : Sem PySem.Fin, wpAny (model prog w) A t P E s → wpAny (model prog w) A (if b = true then (do let _ ← rule "list.sort.reverse"; t) else t) P E s := by
    intro t ht
    split
    · exact wpAny_bind (wpAny_rule ht)
    · exact ht
  unfold ksk_end
  try dsimp only
  refine step _ ?_
  by_cases hl2 : vs.toArray.size < 2
  · rw [if_pos hl2, if_pos hl2]
    refine wpAny_bind (wpAny_pure ?_)
    rw [StateT.run_pure]
    refine wpAny_bind (wpAny_pure ?_)
    try dsimp only
    refine tail (SortSt.mk' general' (if b = true then (keys.zip vs.toArray).reverse else keys.zip vs.toArray) #[] 7 none) rfl (fin _ (Array.Perm.refl _) ?_ (Stable.refl _))
    intro i j hij hj
    rw [hss] at hj
    rw [List.size_toArray] at hl2
    have : i = j := by omega
    subst this
    exact KeyOrd.kle_refl _
  · rw [if_neg hl2, if_neg hl2]
    rw [List.size_toArray] at hl2
    refine wpAny_bind (h2 (by omega) _ ?_)
    refine wpAny_bind (wpAny_mono (H.wpS_sortRunsSt (κ := κ) (kd := kd) (a₀ := if b = true then (keys.zip vs.toArray).reverse else keys.zip vs.toArray)
      (st := SortSt.mk' kd (if b = true then (keys.zip vs.toArray).reverse else keys.zip vs.toArray) #[] 7 none)
      (Q := fun _ st' => failedOf st' = none ∧ (if b = true then ((arrOf st').map (·.2)).reverse else (arrOf st').map (·.2)) = (PySem.W.sortVals κ b keys.toList vs).toArray)
      h1 (hK.perm hstart) ⟨Array.Perm.refl _, rfl, rfl⟩ rfl (Stable.refl _) (by rw [hss]; omega) fun st' a1 a2 a3 a4 => ⟨a2, fin st' a1 a3 a4⟩) ?_ fun _ _ e => e)
    rintro ⟨⟨⟩, st'⟩ s' ⟨rfl, hf, ho⟩
    try dsimp only at ho ⊢
    exact tail st' hf ho
end

section
variable {X : Cx} {pins : List (Addr × Obj)} {σ : L2.St}
theorem raw_at {s : Shared} {H : Hp} {a : Addr} {o : Obj} (I : Inv X pins σ H s) (h : H a = some (RawIs a o)) : s.heap.get? a = some o := (I.hok a _ h).1
theorem new_raw {P : Program} {W : World} {H : Hp} {h : Heap} {a : Addr} {o : Obj} (e : h.get? a = some o) : ObjOk P W H h a (RawIs a o) := ⟨e, ⟨o, e⟩, fun _ _ p q => q _ p⟩
theorem key_loop {A : Around} {F : FM} {f kS p : Addr} {oE : Obj} {w0 : Ws} {body : Value → PUnit → Sem (ForInStep PUnit)} {Q : PUnit → Shared → Prop} {E : Value → Shared → Prop} (ok0 : Ok X.K X.w w0) (h0 : w0.H kS = none) (hpk : p ≠ kS)
    (turn : ∀ (w : Ws) (s : Shared) (x : V) (u : Value) (d k : Dt) (M' : Mem), Inv X pins σ w.H s → Ok X.K X.w w → Dv X.K X.w w x d → RelV x u → F [d] w.M = some (k, M') →
      wpAny (model X.prog X.w) A (call (.ref f) [u]) (fun v s' => ∃ w' y, w'.M = M' ∧ Inv X pins σ w'.H s' ∧ Ok X.K X.w w' ∧ Ext w w' ∧ RelV y v ∧ Dv X.K X.w w' y k) (fun _ _ => False) s)
    (hb : ∀ (x : Value) (s : Shared) (R : ForInStep PUnit → Shared → Prop), wpAny (model X.prog X.w) A (call (.ref f) [x]) (fun v s' => ∃ kA e, s'.heap.get? kS = some (seqObj "list" kA e) ∧ kA.size ≤ sizeLine ∧
      R (.yield ⟨⟩) { s' with heap := s'.heap.update kS (Obj.mapSeq (·.push v)) }) (fun _ _ => False) s → wpAny (model X.prog X.w) A (body x ⟨⟩) R E s) :
    ∀ (ds : List Dt) (xs : List V) (us : List Value) (w : Ws) (s : Shared) (kA : Array Value) (e : Nat) (kvs : List V) (kds ks : List Dt) (M' : Mem), Inv X pins σ w.H s → Ok X.K X.w w → Ext w0 w → kS ∈ w.ex → w.H kS = some (RawIs kS (seqObj "list" kA e)) →
      p ∈ w.ex → w.H p = some (RawIs p oE) → Dvs X.K X.w w xs ds → Vals xs us → Dvs X.K X.w w kvs kds → Vals kvs kA.toList → mapF F ds w.M = some (ks, M') → kA.size + ds.length ≤ sizeLine →
      (∀ (w' : Ws) (s' : Shared) (kA' : Array Value) (e' : Nat) (kvs' : List V), Inv X pins σ w'.H s' → w'.M = M' → Ok X.K X.w w' → Ext w0 w' → kS ∈ w'.ex → w'.H kS = some (RawIs kS (seqObj "list" kA' e')) → p ∈ w'.ex → w'.H p = some (RawIs p oE) → Ext0 w w' →
        Dvs X.K X.w w' kvs' (kds ++ ks) → Vals kvs' kA'.toList → Q ⟨⟩ s') →
      wpAny (model X.prog X.w) A (forIn us PUnit.unit body) Q E s
  | [], xs, us, w, s, kA, e, kvs, kds, ks, M', I, ok, x0, hk1, hk2, hp1, hp2, r, rv, rk, rkv, hm, hz, fin => by
    cases r
    cases rv
    cases hm
    rw [List.forIn_nil]
    exact wpAny_pure (fin w s kA e kvs I rfl ok x0 hk1 hk2 hp1 hp2 (Ext.refl w).toExt0 (by rw [List.append_nil]; exact rk) rkv)
  | d :: ds, xs, us, w, s, kA, e, kvs, kds, ks, M', I, ok, x0, hk1, hk2, hp1, hp2, r, rv, rk, rkv, hm, hz, fin => by
    obtain ⟨k, M1, h1, hm⟩ := thn1_eq hm
    obtain ⟨kr, M2, h2, hm⟩ := thn1_eq hm
    cases hm
    cases r with
    | @cons x xs _ _ r1 r2 =>
      cases rv with
      | @cons _ u _ us v1 v2 =>
        rw [List.forIn_cons]
        refine wpAny_bind (hb u s _ (wpAny_mono (turn w s x u d k M1 I ok r1 v1 h1) (fun v s' hq => ?_) fun _ _ z => z))
        obtain ⟨w1, y, hM1, I1, ok1, x1, ry, dy⟩ := hq
        have hk1' : kS ∈ w1.ex := x1.exm _ hk1
        have hk2' : w1.H kS = some (RawIs kS (seqObj "list" kA e)) := (x1.hid _ hk1).trans hk2
        have hp2' : w1.H p = some (RawIs p oE) := (x1.hid _ hp1).trans hp2
        have hg := raw_at I1 hk2'
        have hz1 : kA.size ≤ sizeLine := by rw [List.length_cons] at hz; omega
        refine ⟨kA, e, hg, hz1, ?_⟩
        have sb := Heap.SameBut.update s'.heap kS (Obj.mapSeq (·.push v))
        obtain ⟨c2, hc2⟩ : ∃ c2, (s'.heap.update kS (Obj.mapSeq (·.push v))).get? kS = some (seqObj "list" (kA.push v) c2) := ⟨_, get?_update_seq hg (·.push v)⟩
        have I2 := Inv.rawUpd (t := s'.toks) I1 hk2' sb hc2
        have e0 : Ext0 w1 (w1.upd kS (RawIs kS (seqObj "list" (kA.push v) c2))) := Ext0.updM hk1' hk2' True.intro
        have ok2 : Ok X.K X.w (w1.upd kS (RawIs kS (seqObj "list" (kA.push v) c2))) := ok1.updM hk1' hk2' True.intro
        have x2 := Ext.upd ok0 (x0.trans x1) (o := RawIs kS (seqObj "list" (kA.push v) c2)) h0
        have ea : (kA.push v).toList = kA.toList ++ [v] := by simp
        show wpAny (model X.prog X.w) A (forIn us PUnit.unit body) Q E _
        refine key_loop (oE := oE) ok0 h0 hpk turn hb ds xs us (w1.upd kS (RawIs kS (seqObj "list" (kA.push v) c2))) _ (kA.push v) c2 (kvs ++ [y]) (kds ++ [k]) kr M' I2 ok2 x2 hk1' upd_same (x1.exm _ hp1) ?_ (Dvs.mono0 e0 _ _ (r2.mono x1)) v2 ?_ ?_ ?_ ?_ ?_
        · show L2.upd w1.H kS _ p = _
          rw [upd_ne hpk]
          exact hp2'
        · exact Dvs.append (Dvs.mono0 e0 _ _ (rk.mono x1)) (Dvs.one (Dv.mono0 e0 _ _ dy))
        · rw [ea]
          exact rkv.append (.cons ry .nil)
        · show mapF F ds w1.M = _
          rw [hM1]
          exact h2
        · rw [Array.size_push]
          rw [List.length_cons] at hz
          omega
        · intro w' s3 kA' e' kvs' J hM J2 J3 J4 J5 J6 J7 J8 J9 J10
          refine fin w' s3 kA' e' kvs' J hM J2 J3 J4 J5 J6 J7 ?_ ?_ J10
          · have a := x1.toExt0
            refine ⟨?_, fun b o h n => J8.imm b o (e0.imm b o (a.imm b o h n) n) n, fun b o h n => ?_⟩
            · obtain ⟨t1, q1⟩ := a.pre
              obtain ⟨t2, q2⟩ := e0.pre
              obtain ⟨t3, q3⟩ := J8.pre
              exact ⟨t1 ++ t2 ++ t3, by rw [q3, q2, q1]; simp [List.append_assoc]⟩
            · obtain ⟨b1, n1⟩ := a.frz b o h n
              obtain ⟨b2, n2⟩ := e0.frz b o b1 n1
              exact J8.frz b o b2 n2
          · rw [List.append_assoc] at J9
            exact J9
end
section
variable {X : Cx} {K : PySem.W.Frag} {W : World}
/-- the end of sorted: a new list -/
def rSortK (K : PySem.W.Frag) (W : World) (f : Addr) (F : FM) : List V → List V → Hp → VK → Prop := fun vs zs H Q => ∃ w x d ds ks ns M', vs = [x] ∧ zs = [V.ref f] ∧ w.H = H ∧ Ok K W w ∧ Dv K W w x d ∧ seqAt w.M d = some ds ∧ mapF F ds w.M = some (ks, M') ∧ ordsN ks = some ns ∧ Fin1 K W w (.lst (sortKD ns ds)) M' Q
theorem Ext0.comp {a b c : Ws} (x : Ext0 a b) (y : Ext0 b c) : Ext0 a c := by
  refine ⟨?_, fun e o h n => y.imm e o (x.imm e o h n) n, fun e o h n => ?_⟩
  · obtain ⟨t1, q1⟩ := x.pre
    obtain ⟨t2, q2⟩ := y.pre
    exact ⟨t1 ++ t2, by rw [q2, q1, List.append_assoc]⟩
  · obtain ⟨h1, n1⟩ := x.frz e o h n
    exact y.frz e o h1 n1
theorem cr_sortK {k : Nat} {f : Addr} {fd : FuncData} {ps : List Str} {F : FM} (G : FnOk X.prog X.w X.K X.mg X.base CX0 k f fd ps (spF X.K X.w 1 F)) (hr : Room (k + 1) X.A) (hb : Binds X.K fd ps []) : CallRK X (.builtin "sorted") [Str.ofString "key"] (rSortK X.K X.w f F) := by
  intro pins s σ H xs zs us ws Q I r rz h
  obtain ⟨w, x, d, ds, ks, ns, M', rfl, rfl, rfl, ok, dx, hs, hm, hn, fq⟩ := h
  obtain ⟨u, rfl, ru⟩ := vals1 r
  obtain ⟨fv, rfl, rf⟩ := vals1 rz
  obtain rfl : fv = Value.ref f := rf
  have hr2 : Room k X.A.in1.in1 := Room.in2 hr
  obtain ⟨a, xs, rfl, hq, rs⟩ := seqAt_ok ok dx hs
  obtain rfl : u = Value.ref a := ru
  -- the items
  obtain ⟨T, o, its, n, hT, ho, hc, hd, rv, hz⟩ : ∃ (T : String) (o : Obj) (its : Array Value) (n : Nat), (T = "list" ∨ T = "tuple") ∧ s.heap.get? a = some o ∧ o.cls = .type T ∧ o.data = .seq its n ∧ Vals xs its.toList ∧ xs.length ≤ sizeLine := by
    rcases hq with hq | hq
    · obtain ⟨its, rv, pl, hz⟩ := I.list hq
      obtain ⟨o, ho, hc, n, hd⟩ := pl.isList
      exact ⟨"list", o, its.toArray, n, .inl rfl, ho, hc, hd, by simpa using rv, hz⟩
    · obtain ⟨its, rv, ⟨o, ho, hc, n, hd⟩, hz⟩ := I.tuple hq
      exact ⟨"tuple", o, its.toArray, n, .inr rfl, ho, hc, hd, by simpa using rv, hz⟩
  have hln : its.toList.length ≤ sizeLine := by rw [← rv.length]; exact hz
  refine sorted_any (ksk_s1 _ _) (fun _ => ksk_l1 _ _) ?_
  refine wpAny_collect_seq a hT ho hc hd (fun h' hk => ⟨hln, fun E' => ?_⟩) (by rw [← Array.length_toList]; exact hln)
  show wpAny (model X.prog X.w) X.A.in1.in1 (Builtin.«list.sort» ⟨[.ref h'.objs.size], [(Str.ofString "key", .ref f)]⟩) _ E' { s with heap := h'.push (seqObj "list" its.toList.toArray 0) }
  have I1 : Inv X pins σ w.H { s with heap := h' } := I.kept (t' := s.toks) hk
  have hp0 : w.H h'.objs.size = none := I1.hok.fresh (Nat.le_refl _)
  have hgp : (h'.push (seqObj "list" its.toList.toArray 0)).get? h'.objs.size = some (seqObj "list" its.toList.toArray 0) := Heap.get?_push_size _ rfl
  have I2 := I1.laid (a := h'.objs.size) (o := RawIs h'.objs.size (seqObj "list" its.toList.toArray 0)) (h' := h'.push (seqObj "list" its.toList.toArray 0)) (t' := s.toks) (fun _ _ q => Heap.get?_push_of_some _ q) (Nat.le_refl _) (new_raw hgp)
  have okh := ok.hide (o := RawIs h'.objs.size (seqObj "list" its.toList.toArray 0)) hp0
  have xh := Ext.hide ok (o := RawIs h'.objs.size (seqObj "list" its.toList.toArray 0)) hp0
  generalize hpe : h'.objs.size = p at *
  rw [ksk_t1]
  unfold ksk_tree
  refine wpAny_bind (listItems_at hgp rfl ?_)
  refine wpAny_bind (listUpdate_at hgp rfl ?_ (by rw [List.size_toArray]; exact hln) (Nat.zero_le _))
  obtain ⟨e1, ho1⟩ : ∃ e1, ((h'.push (seqObj "list" its.toList.toArray 0)).update p (Obj.mapSeq fun _ => (#[] : Array Value))).get? p = some (seqObj "list" #[] e1) := ⟨_, get?_update_seq hgp fun _ => #[]⟩
  have I3 := Inv.rawUpd (t := s.toks) I2 upd_same (Heap.SameBut.update _ p (Obj.mapSeq fun _ => (#[] : Array Value))) ho1
  have ok3 : Ok X.K X.w ((w.hide p (RawIs p (seqObj "list" its.toList.toArray 0))).upd p (RawIs p (seqObj "list" #[] e1))) := okh.updM List.mem_cons_self upd_same True.intro
  have x3 := Ext.upd ok xh (o := RawIs p (seqObj "list" #[] e1)) hp0
  have x30 : Ext0 (w.hide p (RawIs p (seqObj "list" its.toList.toArray 0))) ((w.hide p (RawIs p (seqObj "list" its.toList.toArray 0))).upd p (RawIs p (seqObj "list" #[] e1))) := Ext0.updM List.mem_cons_self upd_same True.intro
  refine wpAny_bind (seqEpoch_at ho1 rfl ?_)
  refine wpAny_bind (wpAny_newTuple ?_ (by show its.toList.length ≤ _; exact hln))
  refine wpAny_bind (wpAny_newList ?_ (Nat.zero_le _))
  refine wpAny_holding ?_
  generalize hh2 : (h'.push (seqObj "list" its.toList.toArray 0)).update p (Obj.mapSeq fun _ => (#[] : Array Value)) = h2 at *
  have I4 := I3.kept (h' := h2.push (seqObj "tuple" its.toList.toArray 0)) (t' := s.toks) (fun _ _ q => Heap.get?_push_of_some _ q)
  generalize hh3 : h2.push (seqObj "tuple" its.toList.toArray 0) = h3 at *
  have hk0 : ((w.hide p (RawIs p (seqObj "list" its.toList.toArray 0))).upd p (RawIs p (seqObj "list" #[] e1))).H h3.objs.size = none := I4.hok.fresh (Nat.le_refl _)
  have hgk : (h3.push (seqObj "list" #[] 0)).get? h3.objs.size = some (seqObj "list" #[] 0) := Heap.get?_push_size _ rfl
  have I5 := I4.laid (a := h3.objs.size) (o := RawIs h3.objs.size (seqObj "list" #[] 0)) (h' := h3.push (seqObj "list" #[] 0)) (t' := s.toks) (fun _ _ q => Heap.get?_push_of_some _ q) (Nat.le_refl _) (new_raw hgk)
  have ok5 := ok3.hide (o := RawIs h3.objs.size (seqObj "list" #[] 0)) hk0
  have x5 := x3.trans (Ext.hide ok3 (o := RawIs h3.objs.size (seqObj "list" #[] 0)) hk0)
  have hkp : p ≠ h3.objs.size := fun e => by
    rw [← e] at hk0
    have : L2.upd (w.hide p (RawIs p (seqObj "list" its.toList.toArray 0))).H p (RawIs p (seqObj "list" #[] e1)) p = none := hk0
    rw [upd_same] at this
    cases this
  have hkw : w.H h3.objs.size = none := by
    cases e : w.H h3.objs.size with
    | none => rfl
    | some v =>
      have : L2.upd (w.hide p (RawIs p (seqObj "list" its.toList.toArray 0))).H p (RawIs p (seqObj "list" #[] e1)) h3.objs.size = none := hk0
      rw [upd_ne hkp.symm] at this
      have : L2.upd w.H p (RawIs p (seqObj "list" its.toList.toArray 0)) h3.objs.size = none := this
      rw [upd_ne hkp.symm, e] at this
      cases this
  show wpAny (model X.prog X.w) X.A.in1.in1 (ksk_rest p (.ref f) false its.toList.toArray e1 (.ref h3.objs.size)) _ E' { s with heap := h3.push (seqObj "list" #[] 0) }
  generalize hkS : h3.objs.size = kS at *
  unfold ksk_rest
  refine wpAny_bind (wpAny_rule ?_)
  first
    | rw [List.forIn_toArray]
    | (rw [← Array.forIn_toList]; simp only [List.toList_toArray])
    | rw [← Array.forIn_toList]
  obtain ⟨hn1, hn2⟩ := ordsN_some hn
  have hlk : ks.length = ds.length := mapF_length hm
  have hln2 : ns.length = ds.length := (toOrds_length hn1).trans hlk
  refine wpAny_bind (key_loop (F := F) (f := f) (kS := kS) (p := p) (oE := seqObj "list" #[] e1) (pins := pins) (σ := σ) ok hkw hkp ?turn ?hb ds xs its.toList (((w.hide p (RawIs p (seqObj "list" its.toList.toArray 0))).upd p (RawIs p (seqObj "list" #[] e1))).hide kS (RawIs kS (seqObj "list" #[] 0))) _ #[] 0 [] [] ks M' I5 ok5 x5 List.mem_cons_self upd_same (List.mem_cons_of_mem _ List.mem_cons_self) ?_ ?_ rv .nil .nil hm ?_ ?_)
  case turn =>
    intro w1 s1 x1 u1 d1 k1 M1 J ok1 r1 v1 h1
    have h2 := G.run X.A.in1.in1 X.stack s1 w1.H ⟨[u1], []⟩ [u1] [x1] (fun v H => ∃ w2, w2.H = H ∧ w2.M = M1 ∧ Ok X.K X.w w2 ∧ Ext w1 w2 ∧ Dv X.K X.w w2 v k1) (fun _ _ _ => False) hr2 J.env0.in1.in1 (by
      have := hb s1 [u1] J.kIn (by
        have := G.len [x1] w1.H (fun _ _ => True) (fun _ _ _ => False) ⟨w1, [d1], k1, M1, rfl, ok1, .cons r1 .nil, rfl, h1, fun _ _ _ _ _ _ => True.intro⟩
        simpa using this)
      rw [List.append_nil] at this
      exact this) (.cons v1 .nil) ⟨w1, [d1], k1, M1, rfl, ok1, .cons r1 .nil, rfl, h1, fun w2 v hM ok2 x2 r2 => ⟨w2, rfl, hM, ok2, x2, r2⟩⟩
    refine wpAny_call (codeAny_mono h2 fun r s' hq => ?_)
    cases r with
    | error e => exact hq
    | ok fl =>
      cases fl with
      | ret u2 =>
        obtain ⟨v, H', J2, rv2, w2, e2, hM, ok2, x2, r2⟩ := J.after hq
        subst e2
        exact ⟨w2, v, hM, J2, ok2, x2, rv2, r2⟩
      | next => exact False.elim hq
      | brk => exact False.elim hq
      | cont => exact False.elim hq
  case hb =>
    intro x1 s1 R hw
    refine wpAny_bind (wpAny_attempt (wpAny_mono hw (fun v s' hq => ?_) fun _ _ z => z.elim))
    obtain ⟨kA, e, hg, hz1, hR⟩ := hq
    try dsimp only
    refine wpAny_bind (listUpdate_at hg rfl ?_ hz1 (Nat.le_trans (Nat.le_of_eq (Array.size_push ..)) (Nat.succ_le_succ hz1)))
    exact wpAny_pure hR
  · show L2.upd _ kS _ p = _
    rw [upd_ne hkp]
    exact upd_same
  · exact Dvs.mono (Ext.hide ok3 hk0) (Dvs.mono0 x30 _ _ (rs.mono xh))
  · rw [← rs.length]
    show (0 : Nat) + _ ≤ _
    omega
  · intro w' s' kA' e' kvs' J hM okJ xJ hk1 hk2 hp1 hp2 xx rk rkv
    rw [List.nil_append] at rk
    have gk := raw_at J hk2
    have gp := raw_at J hp2
    have od := Dvs.ord J ks kvs' ns kA'.toList rk hn1 rkv
    have hsz : kA'.size = its.toList.length := by
      have h1 : kvs'.length = kA'.size := by rw [← Array.length_toList]; exact rkv.length
      have h2 := rk.length
      have h3 := rs.length
      have h4 := rv.length
      omega
    refine wpAny_bind (listItems_at gk rfl ?_)
    have hu := hr2.un
    refine ksk_end_at (κ := ordKind s'.heap ns) gk gp hkp.symm (sortsAt_ord od hn2 (by omega)) hsz hln fun tk => ⟨rfl, ?_⟩
    have rs' : Dvs X.K X.w w' xs ds := Dvs.mono0 xx _ _ (Dvs.mono (Ext.hide ok3 hk0) (Dvs.mono0 x30 _ _ (rs.mono xh)))
    obtain ⟨ys, v3, d3⟩ := sorted_data rs' rv od hln2
    have sb1 := Heap.SameBut.update s'.heap kS (Obj.mapSeq fun _ => (#[] : Array Value))
    obtain ⟨c1, hc1⟩ : ∃ c1, (s'.heap.update kS (Obj.mapSeq fun _ => (#[] : Array Value))).get? kS = some (seqObj "list" #[] c1) := ⟨_, get?_update_seq gk fun _ => #[]⟩
    have J1 := Inv.rawUpd (t := s'.toks) J hk2 sb1 hc1
    have gp1 : (s'.heap.update kS (Obj.mapSeq fun _ => (#[] : Array Value))).get? p = some (seqObj "list" #[] e1) := (sb1.2 p hkp).trans gp
    have sb2 := Heap.SameBut.update (s'.heap.update kS (Obj.mapSeq fun _ => (#[] : Array Value))) p (Obj.mapSeq fun _ => (PySem.W.sortVals (ordKind s'.heap ns) false kA'.toList its.toList).toArray)
    obtain ⟨c2, hc2⟩ : ∃ c2, ((s'.heap.update kS (Obj.mapSeq fun _ => (#[] : Array Value))).update p (Obj.mapSeq fun _ => (PySem.W.sortVals (ordKind s'.heap ns) false kA'.toList its.toList).toArray)).get? p = some (seqObj "list" (PySem.W.sortVals (ordKind s'.heap ns) false kA'.toList its.toList).toArray c2) := ⟨_, get?_update_seq gp1 _⟩
    have hp2' : L2.upd w'.H kS (RawIs kS (seqObj "list" #[] c1)) p = some (RawIs p (seqObj "list" #[] e1)) := by rw [upd_ne hkp]; exact hp2
    have hzs : ys.length ≤ sizeLine := by
      have := v3.length
      rw [PySem.W.sortVals_length false (by rw [Array.length_toList]; exact hsz)] at this
      omega
    have J2 :=
      d_write (t' := tk) (ob := .lst ys) J1 (by rw [hp2']; exact True.intro) sb2 ⟨_, hc2⟩ ⟨hzs, _, c2, v3, hc2⟩
    have okA : Ok X.K X.w (w'.upd kS (RawIs kS (seqObj "list" #[] c1))) := okJ.updM hk1 hk2 True.intro
    have xA : Ext0 w' (w'.upd kS (RawIs kS (seqObj "list" #[] c1))) := Ext0.updM hk1 hk2 True.intro
    have okB : Ok X.K X.w ((w'.upd kS (RawIs kS (seqObj "list" #[] c1))).upd p (.lst ys)) := okA.updM hp1 hp2' True.intro
    have xB : Ext0 (w'.upd kS (RawIs kS (seqObj "list" #[] c1))) ((w'.upd kS (RawIs kS (seqObj "list" #[] c1))).upd p (.lst ys)) := Ext0.updM hp1 hp2' True.intro
    have hsub : ∀ a ∈ w.ex, a ∈ ((w'.upd kS (RawIs kS (seqObj "list" #[] c1))).upd p (.lst ys)).ex := fun a ha => xJ.exm a ha
    have okC := okB.unh hsub
    have xC : Ext0 ((w'.upd kS (RawIs kS (seqObj "list" #[] c1))).upd p (.lst ys)) (((w'.upd kS (RawIs kS (seqObj "list" #[] c1))).upd p (.lst ys)).unh w.ex) := Ext0.unh hsub
    have xAll : Ext w (((w'.upd kS (RawIs kS (seqObj "list" #[] c1))).upd p (.lst ys)).unh w.ex) := Ext.unh (Ext.upd ok (Ext.upd ok xJ hkw) hp0)
    refine ⟨.ref p, _, J2, rfl, fq (((w'.upd kS (RawIs kS (seqObj "list" #[] c1))).upd p (.lst ys)).unh w.ex) (.ref p) hM okC xAll (.lst (xs := ys) upd_same ⟨?_, ok.exf hp0⟩ (Dvs.mono0 xC _ _ (Dvs.mono0 xB _ _ (Dvs.mono0 xA _ _ d3))))⟩
    rintro ⟨i, c, h1, _⟩
    exact (okJ.exl p hp1).1 (List.mem_of_getElem? h1)
end
section
variable {X : Cx}
def sortE (F : FM) (m : EM) : EM := fun e M => thn1 (m e M) fun d M1 => match seqAt M1 d with
  | some ds => thn1 (mapF F ds M1) fun ks M2 => match ordsN ks with
    | some ns => some (.lst (sortKD ns ds), M2)
    | none => none
  | none => none
theorem re_sort {k : Nat} {f : Addr} {fd : FuncData} {ps : List Str} {F : FM} {e : Expr} {x : Str} {p p' kpos pos : Pos} {m : EM} (G : FnOk X.prog X.w X.K X.mg X.base CX0 k f fd ps (spF X.K X.w 1 F)) (hr : Room (k + 1) X.A) (hg : Gl X "sorted") (hm : X.mg "sorted" = none)
    (hgf : Gl X x) (hmf : X.mg x = some (.ref f)) (hk : PySem.W.keepIn X.K (.ref f) = true) (hb : Binds X.K fd ps []) (he : RE X e m) (hd : (x == ("__debug__" : Str)) = false := by decide)
    (hs : starEach [e] X.env = (false, eval e X.env) :: starEach [] X.env := by rfl) : RE X (.Call (.Name "sorted" p) [e] [⟨some "key", .Name x p', kpos⟩] pos) (sortE F m) := by
  refine pe_weak (pe_callBK (ks := [Str.ofString "key"]) (cr_sortK G hr hb) hg hm (by first | rfl | decide +kernel) (pa_cons he pa_nil hs) (pk_cons (pe_glob (v := .ref f) hgf hmf rfl hd) pk_nil) (he := by rw [hs]; rfl) (hpl := by rw [hs]; rfl)) fun σ H Q q => ?_
  obtain ⟨w, sl, d, M', rfl, ok, er, hm, fq⟩ := q
  obtain ⟨d0, M1, h1, hm⟩ := thn1_eq hm
  split at hm
  · rename_i ds hds
    obtain ⟨ks, M2, h2, hm⟩ := thn1_eq hm
    split at hm
    · rename_i ns hns
      cases hm
      refine ⟨w, sl, d0, M1, rfl, ok, er, h1, fun w1 v hM1 ok1 x1 r1 => ?_⟩
      show rSortK X.K X.w f F [v] [V.ref f] w1.H Q
      exact ⟨w1, v, d0, ds, ks, ns, _, rfl, rfl, rfl, ok1, r1, by rw [hM1]; exact hds, by rw [hM1]; exact h2, hns, fq.after x1⟩
    · cases hm
  · cases hm
end
end DL
/-! The draws that all laws make from their script: start, draw, pick, in plain Lean. -/
namespace DL
open PySem PySem.Spec PyProof.Rows L2

noncomputable def m_start : SM :=
    (rtS (dispE [((cE (.str "cells")), (lcE (seqI (varE 0)) (.one 1) yesT (callE (pureF absF) (consA (callE (pureF intF) (consA (varE 1) nilA)) nilA)) [1])), ((cE (.str "at")), (cE (.int 0))), ((cE (.str "left")), (cE (.int 0))), ((cE (.str "mix")), (opE (pure2 addD) (cE (.int 7)) (callE lenF (consA (varE 0) nilA))))]))
noncomputable def F_start : FM := (body 2 m_start)
noncomputable def m_draw : SM :=
    (seqS (ifS (andT (blT (opE eqD (opE ixA (varE 0) (cE (.str "left"))) (cE (.int 0)))) (blT (opE ltD (opE ixA (varE 0) (cE (.str "at"))) (callE lenF (consA (opE ixA (varE 0) (cE (.str "cells"))) nilA))))) (seqS (setS 2 (opE ixA (opE ixA (varE 0) (cE (.str "cells"))) (opE ixA (varE 0) (cE (.str "at")))))
    (seqS (asgS (opE (pure2 addD) (opE ixA (varE 0) (cE (.str "at"))) (cE (.int 1))) (subG (varE 0) (cE (.str "at"))))
    (seqS (asgS (opE (pure2 fmodD) (callE (pureF intF) (consA (opE (pure2 addD) (opE (pure2 addD) (opE (pure2 mulD) (opE ixA (varE 0) (cE (.str "mix"))) (cE (.int 48271))) (varE 2)) (cE (.int 11))) nilA)) (cE (.int 2147483647))) (subG (varE 0) (cE (.str "mix"))))
    (seqS (ifS (blT (opE ltD (varE 2) (opE (pure2 powD) (cE (.int 10)) (cE (.int 18))))) (rtS (opE (pure2 fmodD) (callE (pureF intF) (consA (varE 2) nilA)) (varE 1))) nxS)
    (asgS (varE 2) (subG (varE 0) (cE (.str "left")))))))) nxS)
    (seqS (ifS (blT (opE (pure2 gtI) (opE ixA (varE 0) (cE (.str "left"))) (cE (.int 0)))) (seqS (setS 3 (opE (pure2 fmodD) (callE (pureF intF) (consA (opE ixA (varE 0) (cE (.str "left"))) nilA)) (varE 1)))
    (seqS (asgS (opE (pure2 fdivD) (opE ixA (varE 0) (cE (.str "left"))) (varE 1)) (subG (varE 0) (cE (.str "left"))))
    (rtS (varE 3)))) nxS)
    (seqS (asgS (opE (pure2 fmodD) (callE (pureF intF) (consA (opE (pure2 addD) (opE (pure2 mulD) (opE ixA (varE 0) (cE (.str "mix"))) (cE (.int 48271))) (cE (.int 11))) nilA)) (cE (.int 2147483647))) (subG (varE 0) (cE (.str "mix"))))
    (rtS (opE (pure2 fmodD) (callE (pureF intF) (consA (opE (pure2 fmodD) (callE (pureF intF) (consA (opE (pure2 addD) (opE (pure2 mulD) (opE ixA (varE 0) (cE (.str "mix"))) (cE (.int 69621))) (cE (.int 5))) nilA)) (cE (.int 2147483629))) nilA)) (varE 1))))))
noncomputable def F_draw : FM := cutF (body 4 m_draw)
noncomputable def m_pick : SM :=
    (rtS (opE ixA (varE 1) (callE F_draw (consA (varE 0) (consA (callE lenF (consA (varE 1) nilA)) nilA)))))
noncomputable def F_pick : FM := cutF (body 2 m_pick)

/-! ### the state -/
def kC : Str := "cells"
def kA : Str := "at"
def kL : Str := "left"
def kM : Str := "mix"
def stD (cs : List Int) (p l m : Int) : Dt := .dic [.str "cells", .str "at", .str "left", .str "mix"] [.lst (cs.map .int), .int p, .int l, .int m]
structure StOk (cs : List Int) (p l m : Int) : Prop where
  cs : ∀ c ∈ cs, 0 ≤ c
  p : 0 ≤ p
  l : 0 ≤ l
  m : 0 ≤ m ∧ m < 2147483648
/-- the state of the draws stands in cell i -/
def IsSt (i : Nat) (M : Mem) : Prop := ∃ cs p l m, M[i]? = some (some (stD cs p l m)) ∧ StOk cs p l m
section
variable {i : Nat} {M : Mem} {cs : List Int} {p l m : Int}
theorem nT {a b : Str} (h : a = b) : NestedKey.text a = NestedKey.text b := by rw [h]
theorem st_keys : toKeys [.str "cells", .str "at", .str "left", .str "mix"] = some [NestedKey.text "cells", .text "at", .text "left", .text "mix"] := rfl
theorem ixS_cells : ixD' [.str "cells", .str "at", .str "left", .str "mix"] (.text "cells") = some 0 := by
  unfold ixD'; rw [st_keys]; decide +kernel
theorem ixS_at : ixD' [.str "cells", .str "at", .str "left", .str "mix"] (.text "at") = some 1 := by
  unfold ixD'; rw [st_keys]; decide +kernel
theorem ixS_left : ixD' [.str "cells", .str "at", .str "left", .str "mix"] (.text "left") = some 2 := by
  unfold ixD'; rw [st_keys]; decide +kernel
theorem ixS_mix : ixD' [.str "cells", .str "at", .str "left", .str "mix"] (.text "mix") = some 3 := by
  unfold ixD'; rw [st_keys]; decide +kernel
theorem keyN_str (x : Str) : keyN (.str x) = some (.text x) := rfl
theorem st_dict (h : M[i]? = some (some (stD cs p l m))) : dictAt M (.ref i) = some ([.str "cells", .str "at", .str "left", .str "mix"], [.lst (cs.map .int), .int p, .int l, .int m]) := by
  simp only [dictAt, h, stD]
theorem st_cells (h : M[i]? = some (some (stD cs p l m))) : ixA (.ref i) (.str "cells") M = some (.lst (cs.map .int), M) := by
  unfold ixA; rw [st_dict h]; simp only [keyN_str, Option.bind_some, findD, ixS_cells]; rfl
theorem st_at (h : M[i]? = some (some (stD cs p l m))) : ixA (.ref i) (.str "at") M = some (.int p, M) := by
  unfold ixA; rw [st_dict h]; simp only [keyN_str, Option.bind_some, findD, ixS_at]; rfl
theorem st_left (h : M[i]? = some (some (stD cs p l m))) : ixA (.ref i) (.str "left") M = some (.int l, M) := by
  unfold ixA; rw [st_dict h]; simp only [keyN_str, Option.bind_some, findD, ixS_left]; rfl
theorem st_mix (h : M[i]? = some (some (stD cs p l m))) : ixA (.ref i) (.str "mix") M = some (.int m, M) := by
  unfold ixA; rw [st_dict h]; simp only [keyN_str, Option.bind_some, findD, ixS_mix]; rfl
theorem four_lt : (4 : Nat) < sizeLine := by rw [sizeLine_eq]; decide
theorem st_setAt (h : M[i]? = some (some (stD cs p l m))) (q : Int) : storeD M (.ref i) (.str "at") (.int q) = some (M.set i (some (stD cs q l m))) := by
  simp only [storeD, h, stD]
  rw [if_pos (by exact four_lt)]
  simp only [keyN_str, Option.map_some, putD, ixS_at]
  rfl
theorem st_setLeft (h : M[i]? = some (some (stD cs p l m))) (q : Int) : storeD M (.ref i) (.str "left") (.int q) = some (M.set i (some (stD cs p q m))) := by
  simp only [storeD, h, stD]
  rw [if_pos (by exact four_lt)]
  simp only [keyN_str, Option.map_some, putD, ixS_left]
  rfl
theorem st_setMix (h : M[i]? = some (some (stD cs p l m))) (q : Int) : storeD M (.ref i) (.str "mix") (.int q) = some (M.set i (some (stD cs p l q))) := by
  simp only [storeD, h, stD]
  rw [if_pos (by exact four_lt)]
  simp only [keyN_str, Option.map_some, putD, ixS_mix]
  rfl
theorem set_same (h : M[i]? = some (some (stD cs p l m))) (d : Option Dt) : (M.set i d)[i]? = some d := by
  rw [List.getElem?_set_self (List.getElem?_eq_some_iff.mp h).1]
theorem eqO_int (M : Mem) (a b : Int) : eqO M (.int a) (.int b) = some (decide (a = b)) := by
  simp only [eqO, deref, toPy]
  rw [if_pos ⟨rfl, rfl⟩]
  rfl
theorem ltO_int (a b : Int) : ltO (.int a) (.int b) = some (decide (a < b)) := rfl
theorem cls_ints (n : Nat) : ∀ cs : List Int, Cls n (cs.map .int)
  | [] => by simp [Cls]
  | c :: cs => by rw [List.map_cons, Cls]; exact ⟨by simp [Cl], cls_ints n cs⟩
theorem cl_st (n : Nat) : Cl n (stD cs p l m) := by
  simp [stD, Cl, Cls, cls_ints]
/-- a call that changes one cell alone -/
theorem cutF_set {F : FM} {ds : List Dt} {d c : Dt} (h : F ds M = some (d, M.set i (some c))) (hd : Cl M.length d) (hc : Cl M.length c) : cutF F ds M = some (d, M.set i (some c)) := by
  unfold cutF
  rw [h]
  simp only
  rw [if_pos]
  · rw [List.take_of_length_le (by simp)]
  · refine ⟨hd, fun j e hj hg => ?_⟩
    by_cases e1 : i = j
    · subst e1
      rw [List.getElem?_set_self hj] at hg
      cases hg
      exact .inr hc
    · rw [List.getElem?_set_ne e1] at hg
      exact .inl hg
theorem cutF_id {F : FM} {ds : List Dt} {d : Dt} (h : F ds M = some (d, M)) (hd : Cl M.length d) : cutF F ds M = some (d, M) := by
  unfold cutF
  rw [h]
  simp only
  rw [if_pos ⟨hd, fun j e hj hg => .inl hg⟩]
  simp
theorem seq_nx {a b : SM} {e e1 : Sl} {M M1 : Mem} (h : a e M = some (.nx, e1, M1)) : seqS a b e M = b e1 M1 := by unfold seqS; rw [h]
theorem seq_rt {a b : SM} {e e1 : Sl} {M M1 : Mem} {d : Dt} (h : a e M = some (.rt d, e1, M1)) : seqS a b e M = some (.rt d, e1, M1) := by unfold seqS; rw [h]
theorem if_t {t : TM} {a b : SM} {e : Sl} {M M1 : Mem} (h : t e M = some (true, M1)) : ifS t a b e M = a e M1 := by unfold ifS; rw [h]; rfl
theorem if_f {t : TM} {a b : SM} {e : Sl} {M M1 : Mem} (h : t e M = some (false, M1)) : ifS t a b e M = b e M1 := by unfold ifS; rw [h]; rfl
theorem if_b {t : TM} {a b : SM} {e : Sl} {M M1 : Mem} {c : Bool} (h : t e M = some (c, M1)) : ifS t a b e M = if c = true then a e M1 else b e M1 := by unfold ifS; rw [h]; rfl
theorem body_rt {n : Nat} {m : SM} {ds : List Dt} {M M' : Mem} {e : Sl} {d : Dt} (h : m (ds.map some ++ List.replicate (n - ds.length) none) M = some (.rt d, e, M')) : body n m ds M = some (d, M') := by unfold body; rw [h]
theorem at_nat {α : Type} {xs : List α} {p : Int} {x : α} (h0 : 0 ≤ p) (h : xs[p.toNat]? = some x) : L2.atI xs p = some x := by
  have hl := (List.getElem?_eq_some_iff.mp h).1
  unfold L2.atI L2.ixN
  rw [if_pos h0, if_pos (by omega)]
  exact h
theorem pow18 : powD (.int 10) (.int 18) = some (.int 1000000000000000000) := by
  simp only [powD, intD]
  rw [if_pos ⟨by decide, by decide, by decide⟩]
  rfl
theorem mul_mix {m k : Int} (h0 : 0 ≤ m) (h1 : m < 2147483648) (hk : 0 ≤ k) (hk2 : k < 100000) : mulD (.int m) (.int k) = some (.int (m * k)) := by
  simp only [mulD, intD]
  rw [if_pos (.inl ⟨by omega, by omega⟩)]
theorem mod_int {a b : Int} (h : b ≠ 0) : fmodD (.int a) (.int b) = some (.int (a.fmod b)) := by
  simp only [fmodD, intD]
  rw [if_pos h]
theorem div_int {a b : Int} (h : 0 < b) (h2 : b < 1073741824) : fdivD (.int a) (.int b) = some (.int (a.fdiv b)) := by
  simp only [fdivD, intD]
  rw [if_pos ⟨by omega, by omega⟩]
theorem fmod_range {a b : Int} (h : 0 < b) : 0 ≤ a.fmod b ∧ a.fmod b < b := by
  rw [Int.fmod_eq_emod_of_nonneg _ (Int.le_of_lt h)]
  exact ⟨Int.emod_nonneg _ (by omega), Int.emod_lt_of_pos _ h⟩
theorem fdiv_range {a b : Int} (h : 0 < b) (ha : 0 ≤ a) : 0 ≤ a.fdiv b := by
  rw [Int.fdiv_eq_ediv_of_nonneg _ (Int.le_of_lt h)]
  exact Int.ediv_nonneg ha (by omega)
/-- one draw: a number below the bound; only the state's cell changes -/
theorem draw_body (h : M[i]? = some (some (stD cs p l m))) (ok : StOk cs p l m) {b : Int} (hb : 0 < b) (hb2 : b < 1073741824) :
    ∃ r p' l' m', 0 ≤ r ∧ r < b ∧ StOk cs p' l' m' ∧ body 4 m_draw [.ref i, .int b] M = some (.int r, M.set i (some (stD cs p' l' m'))) := by
  have hi := (List.getElem?_eq_some_iff.mp h).1
  obtain ⟨okc, okp, okl, okm1, okm2⟩ := ok
  have nb : b ≠ 0 := by omega
  have len : lenF [Dt.lst (cs.map Dt.int)] M = some (.int (cs.length : Int), M) := by simp [lenF, lenD, seqAt]
  have t1 : ∀ (e : Sl), e[0]? = some (some (.ref i)) → (andT (blT (opE eqD (opE ixA (varE 0) (cE (.str "left"))) (cE (.int 0)))) (blT (opE ltD (opE ixA (varE 0) (cE (.str "at"))) (callE lenF (consA (opE ixA (varE 0) (cE (.str "cells"))) nilA))))) e M = some (decide (l = 0) && decide (p < cs.length), M) := by
    intro e he
    simp only [andT, blT, opE, varE, cE, he, thn1_some, st_left h, st_at h, st_cells h, eqD, eqO_int, pur_some, Option.map_some, callE, consA, nilA, len, ltD, ltO_int]
    by_cases h0 : l = 0
    · simp [h0]
    · simp [h0]
  -- the numbers left in a cell
  have left1 : ∀ (q mm : Int) (e : Sl), 0 ≤ q → 0 ≤ l → 0 ≤ mm ∧ mm < 2147483648 → e[0]? = some (some (.ref i)) → e[1]? = some (some (.int b)) → 3 < e.length → ∀ M1 : Mem, ∀ l1 : Int, 0 ≤ l1 → M1[i]? = some (some (stD cs q l1 mm)) →
      ∃ r p' l' m' e', 0 ≤ r ∧ r < b ∧ StOk cs p' l' m' ∧ (seqS (ifS (blT (opE (pure2 gtI) (opE ixA (varE 0) (cE (.str "left"))) (cE (.int 0)))) (seqS (setS 3 (opE (pure2 fmodD) (callE (pureF intF) (consA (opE ixA (varE 0) (cE (.str "left"))) nilA)) (varE 1)))
        (seqS (asgS (opE (pure2 fdivD) (opE ixA (varE 0) (cE (.str "left"))) (varE 1)) (subG (varE 0) (cE (.str "left"))))
        (rtS (varE 3)))) nxS)
        (seqS (asgS (opE (pure2 fmodD) (callE (pureF intF) (consA (opE (pure2 addD) (opE (pure2 mulD) (opE ixA (varE 0) (cE (.str "mix"))) (cE (.int 48271))) (cE (.int 11))) nilA)) (cE (.int 2147483647))) (subG (varE 0) (cE (.str "mix"))))
        (rtS (opE (pure2 fmodD) (callE (pureF intF) (consA (opE (pure2 fmodD) (callE (pureF intF) (consA (opE (pure2 addD) (opE (pure2 mulD) (opE ixA (varE 0) (cE (.str "mix"))) (cE (.int 69621))) (cE (.int 5))) nilA)) (cE (.int 2147483629))) nilA)) (varE 1))))) e M1 =
        some (.rt (.int r), e', M1.set i (some (stD cs p' l' m'))) := by
    intro q mm e hq _ hmm he0 he1 hel M1 l1 hl1 h1
    have g1 : (blT (opE (pure2 gtI) (opE ixA (varE 0) (cE (.str "left"))) (cE (.int 0)))) e M1 = some (decide (0 < l1), M1) := by
      simp only [blT, opE, varE, cE, he0, thn1_some, st_left h1, pure2, gtI, cmpD, pur_some]
    by_cases hp : 0 < l1
    · have e3 : (e.set 3 (some (.int (l1.fmod b))))[3]? = some (some (.int (l1.fmod b))) := List.getElem?_set_self hel
      have e0 : (e.set 3 (some (.int (l1.fmod b))))[0]? = some (some (.ref i)) := by rw [List.getElem?_set_ne (by decide)]; exact he0
      have e1 : (e.set 3 (some (.int (l1.fmod b))))[1]? = some (some (.int b)) := by rw [List.getElem?_set_ne (by decide)]; exact he1
      refine ⟨l1.fmod b, q, l1.fdiv b, mm, e.set 3 (some (.int (l1.fmod b))), (fmod_range hb).1, (fmod_range hb).2, ⟨okc, hq, fdiv_range hb hl1, hmm⟩, ?_⟩
      rw [seq_rt]
      rw [if_t (by rw [g1, decide_eq_true hp])]
      rw [seq_nx (e1 := e.set 3 (some (.int (l1.fmod b)))) (M1 := M1)]
      · rw [seq_nx (e1 := e.set 3 (some (.int (l1.fmod b)))) (M1 := M1.set i (some (stD cs q (l1.fdiv b) mm)))]
        · simp only [rtS, varE, e3, thn1_some]
        · simp only [asgS, subG, opE, varE, cE, e0, e1, thn1_some, st_left h1, pure2, div_int hb hb2, pur_some, st_setLeft h1, Option.map_some]
      · simp only [setS, opE, callE, consA, nilA, pureF, intF, varE, cE, he0, he1, thn1_some, st_left h1, pure2, mod_int nb, pur_some]
    · have h2 : (M1.set i (some (stD cs q l1 ((mm * 48271 + 11).fmod 2147483647))))[i]? = some (some (stD cs q l1 ((mm * 48271 + 11).fmod 2147483647))) := set_same h1 _
      have r1 := fmod_range (a := mm * 48271 + 11) (b := 2147483647) (by decide)
      refine ⟨((((mm * 48271 + 11).fmod 2147483647) * 69621 + 5).fmod 2147483629).fmod b, q, l1, (mm * 48271 + 11).fmod 2147483647, e, (fmod_range hb).1, (fmod_range hb).2, ⟨okc, hq, hl1, r1.1, by omega⟩, ?_⟩
      rw [seq_nx (e1 := e) (M1 := M1) (by rw [if_f (by rw [g1, decide_eq_false hp])]; rfl)]
      rw [seq_nx (e1 := e) (M1 := M1.set i (some (stD cs q l1 ((mm * 48271 + 11).fmod 2147483647))))]
      · simp only [rtS, opE, callE, consA, nilA, pureF, intF, varE, cE, he0, he1, thn1_some, st_mix h2, pure2, mul_mix (k := 69621) r1.1 (by omega) (by decide) (by decide), addD, mod_int (b := 2147483629) (by decide), mod_int nb, pur_some]
      · simp only [asgS, subG, opE, callE, consA, nilA, pureF, intF, varE, cE, he0, he1, thn1_some, st_mix h1, pure2, mul_mix (k := 48271) hmm.1 hmm.2 (by decide) (by decide), addD, mod_int (b := 2147483647) (by decide), pur_some, st_setMix h1, Option.map_some]
  by_cases hc : l = 0 ∧ p < cs.length
  · obtain ⟨rfl, hp⟩ := hc
    obtain ⟨c, hcc⟩ : ∃ c, cs[p.toNat]? = some c := ⟨_, List.getElem?_eq_getElem (by omega)⟩
    have hc0 : 0 ≤ c := okc c (List.mem_of_getElem? hcc)
    have hat : L2.atI (cs.map Dt.int) p = some (.int c) := at_nat okp (by rw [List.getElem?_map, hcc]; rfl)
    have h1 : (M.set i (some (stD cs (p + 1) 0 m)))[i]? = some (some (stD cs (p + 1) 0 m)) := set_same h _
    have r1 := fmod_range (a := m * 48271 + c + 11) (b := 2147483647) (by decide)
    have h2 : ((M.set i (some (stD cs (p + 1) 0 m))).set i (some (stD cs (p + 1) 0 ((m * 48271 + c + 11).fmod 2147483647))))[i]? = some (some (stD cs (p + 1) 0 ((m * 48271 + c + 11).fmod 2147483647))) := set_same h1 _
    have ee : ([Dt.ref i, .int b].map some ++ List.replicate (4 - [Dt.ref i, .int b].length) none : Sl) = [some (.ref i), some (.int b), none, none] := rfl
    have first : ∀ X : SM, (seqS (setS 2 (opE ixA (opE ixA (varE 0) (cE (.str "cells"))) (opE ixA (varE 0) (cE (.str "at")))))
      (seqS (asgS (opE (pure2 addD) (opE ixA (varE 0) (cE (.str "at"))) (cE (.int 1))) (subG (varE 0) (cE (.str "at"))))
      (seqS (asgS (opE (pure2 fmodD) (callE (pureF intF) (consA (opE (pure2 addD) (opE (pure2 addD) (opE (pure2 mulD) (opE ixA (varE 0) (cE (.str "mix"))) (cE (.int 48271))) (varE 2)) (cE (.int 11))) nilA)) (cE (.int 2147483647))) (subG (varE 0) (cE (.str "mix"))))
      X))) [some (.ref i), some (.int b), none, none] M = X [some (.ref i), some (.int b), some (.int c), none] (M.set i (some (stD cs (p + 1) 0 ((m * 48271 + c + 11).fmod 2147483647)))) := by
      intro X
      rw [seq_nx (e1 := [some (.ref i), some (.int b), some (.int c), none]) (M1 := M)]
      · rw [seq_nx (e1 := [some (.ref i), some (.int b), some (.int c), none]) (M1 := M.set i (some (stD cs (p + 1) 0 m)))]
        · rw [seq_nx (e1 := [some (.ref i), some (.int b), some (.int c), none]) (M1 := (M.set i (some (stD cs (p + 1) 0 m))).set i (some (stD cs (p + 1) 0 ((m * 48271 + c + 11).fmod 2147483647))))]
          · rw [List.set_set]
          · simp only [asgS, subG, opE, callE, consA, nilA, pureF, intF, varE, cE, List.getElem?_cons_zero, List.getElem?_cons_succ, thn1_some, st_mix h1, pure2, mul_mix (k := 48271) okm1 okm2 (by decide) (by decide), addD, mod_int (b := 2147483647) (by decide), pur_some, st_setMix h1, Option.map_some]
        · simp only [asgS, subG, opE, varE, cE, List.getElem?_cons_zero, thn1_some, st_at h, pure2, addD, pur_some, st_setAt h, Option.map_some]
      · simp only [setS, opE, varE, cE, List.getElem?_cons_zero, thn1_some, st_at h, st_cells h]
        simp [ixA, dictAt, ixD, seqAt, hat]
    have small : ∀ M1 : Mem, (blT (opE ltD (varE 2) (opE (pure2 powD) (cE (.int 10)) (cE (.int 18))))) [some (.ref i), some (.int b), some (.int c), none] M1 = some (decide (c < 1000000000000000000), M1) := by
      intro M1
      simp only [blT, opE, varE, cE, List.getElem?_cons_zero, List.getElem?_cons_succ, thn1_some, pure2, pow18, pur_some, ltD, ltO_int, Option.map_some]
    by_cases hs : c < 1000000000000000000
    · refine ⟨c.fmod b, p + 1, 0, (m * 48271 + c + 11).fmod 2147483647, (fmod_range hb).1, (fmod_range hb).2, ⟨okc, by omega, by omega, r1.1, by omega⟩, body_rt (e := [some (.ref i), some (.int b), some (.int c), none]) ?_⟩
      rw [ee]
      unfold m_draw
      refine seq_rt ?_
      rw [if_t (M1 := M) (by rw [t1 _ rfl]; simp [hp]), first]
      refine seq_rt ?_
      rw [if_t (by rw [small, decide_eq_true hs])]
      simp only [rtS, opE, callE, consA, nilA, pureF, intF, varE, cE, List.getElem?_cons_zero, List.getElem?_cons_succ, thn1_some, pure2, mod_int nb, pur_some]
    · obtain ⟨r, p', l', m', e', k1, k2, k3, k4⟩ := left1 (p + 1) ((m * 48271 + c + 11).fmod 2147483647) [some (.ref i), some (.int b), some (.int c), none] (by omega) (by omega) ⟨r1.1, by omega⟩ rfl rfl (by simp)
        (M.set i (some (stD cs (p + 1) c ((m * 48271 + c + 11).fmod 2147483647)))) c hc0 (set_same h _)
      refine ⟨r, p', l', m', k1, k2, k3, body_rt (e := e') ?_⟩
      rw [ee]
      unfold m_draw
      rw [seq_nx (e1 := [some (.ref i), some (.int b), some (.int c), none]) (M1 := M.set i (some (stD cs (p + 1) c ((m * 48271 + c + 11).fmod 2147483647))))]
      · rw [k4, List.set_set]
      · rw [if_t (M1 := M) (by rw [t1 _ rfl]; simp [hp]), first]
        rw [seq_nx (e1 := [some (.ref i), some (.int b), some (.int c), none]) (M1 := M.set i (some (stD cs (p + 1) 0 ((m * 48271 + c + 11).fmod 2147483647)))) (by rw [if_f (by rw [small, decide_eq_false hs])]; rfl)]
        have h3 := set_same h (some (stD cs (p + 1) 0 ((m * 48271 + c + 11).fmod 2147483647)))
        simp only [asgS, subG, varE, cE, List.getElem?_cons_zero, List.getElem?_cons_succ, thn1_some, st_setLeft h3, Option.map_some, List.set_set]
  · obtain ⟨r, p', l', m', e', k1, k2, k3, k4⟩ := left1 p m [some (.ref i), some (.int b), none, none] okp okl ⟨okm1, okm2⟩ rfl rfl (by simp) M l okl h
    refine ⟨r, p', l', m', k1, k2, k3, body_rt (e := e') ?_⟩
    have ee : ([Dt.ref i, .int b].map some ++ List.replicate (4 - [Dt.ref i, .int b].length) none : Sl) = [some (.ref i), some (.int b), none, none] := rfl
    rw [ee]
    unfold m_draw
    rw [seq_nx (e1 := [some (.ref i), some (.int b), none, none]) (M1 := M)]
    · exact k4
    · rw [if_f]
      · rfl
      · rw [t1 _ rfl]
        have : (decide (l = 0) && decide (p < cs.length)) = false := by
          rw [Bool.and_eq_false_iff, decide_eq_false_iff_not, decide_eq_false_iff_not]
          by_cases h0 : l = 0
          · exact .inr fun z => hc ⟨h0, z⟩
          · exact .inl h0
        rw [this]
/-- one draw -/
theorem draw (h : M[i]? = some (some (stD cs p l m))) (ok : StOk cs p l m) {b : Int} (hb : 0 < b) (hb2 : b < 1073741824) :
    ∃ r p' l' m', 0 ≤ r ∧ r < b ∧ StOk cs p' l' m' ∧ F_draw [.ref i, .int b] M = some (.int r, M.set i (some (stD cs p' l' m'))) := by
  obtain ⟨r, p', l', m', h1, h2, h3, h4⟩ := draw_body h ok hb hb2
  exact ⟨r, p', l', m', h1, h2, h3, cutF_set h4 (by simp [Cl]) (cl_st _)⟩
end
/-! ### the state kept, and all else -/
/-- M' is M but for the state at i -/
structure Dr (i : Nat) (M M' : Mem) : Prop where
  st : IsSt i M'
  oth : ∀ j, j ≠ i → M'[j]? = M[j]?
  len : M'.length = M.length
theorem Dr.refl {i : Nat} {M : Mem} (h : IsSt i M) : Dr i M M := ⟨h, fun _ _ => rfl, rfl⟩
theorem Dr.trans {i : Nat} {M M1 M2 : Mem} (a : Dr i M M1) (b : Dr i M1 M2) : Dr i M M2 := ⟨b.st, fun j h => (b.oth j h).trans (a.oth j h), b.len.trans a.len⟩
theorem draw_dr {i : Nat} {M : Mem} (h : IsSt i M) {b : Int} (hb : 0 < b) (hb2 : b < 1073741824) : ∃ r M', 0 ≤ r ∧ r < b ∧ Dr i M M' ∧ F_draw [.ref i, .int b] M = some (.int r, M') := by
  obtain ⟨cs, p, l, m, h1, ok⟩ := h
  obtain ⟨r, p', l', m', h2, h3, h4, h5⟩ := draw h1 ok hb hb2
  exact ⟨r, _, h2, h3, ⟨⟨cs, p', l', m', set_same h1 _, h4⟩, fun j hj => List.getElem?_set_ne hj.symm, List.length_set⟩, h5⟩
/-- a call whose changes are the state's alone -/
theorem cutF_dr {F : FM} {ds : List Dt} {i : Nat} {M M' : Mem} {d : Dt} (r : Dr i M M') (h : F ds M = some (d, M')) (hd : Cl M.length d) : cutF F ds M = some (d, M') := by
  unfold cutF
  rw [h]
  simp only
  rw [if_pos]
  · rw [List.take_of_length_le (by rw [r.len]; exact Nat.le_refl _)]
  · refine ⟨hd, fun j e hj hg => ?_⟩
    by_cases e1 : j = i
    · subst e1
      obtain ⟨cs, p, l, m, h1, _⟩ := r.st
      rw [h1] at hg
      cases hg
      exact .inr (cl_st _)
    · rw [r.oth j e1] at hg
      exact .inl hg
theorem cls_mem {n : Nat} : ∀ {xs : List Dt} {x : Dt}, Cls n xs → x ∈ xs → Cl n x
  | _ :: xs, x, h, hx => by
    rw [Cls] at h
    rcases List.mem_cons.mp hx with rfl | hx
    · exact h.1
    · exact cls_mem h.2 hx
/-- things[draw(len(things))] -/
theorem pick_dr {i : Nat} {M : Mem} {xs : List Dt} {d : Dt} (h : IsSt i M) (hx : ∀ M', Dr i M M' → seqAt M' d = some xs) (hd : dictAt M d = none) (hs : ∀ z, d ≠ .str z) (hi : ∀ M', Dr i M M' → dictAt M' d = none) (h0 : xs ≠ []) (hl : xs.length < 1073741824) (hc : Cls M.length xs) :
    ∃ x M', x ∈ xs ∧ Dr i M M' ∧ F_pick [.ref i, d] M = some (x, M') := by
  have hlen : lenF [d] M = some (.int (xs.length : Int), M) := by
    have : lenD M d = some xs.length := by
      cases d with
      | str z => exact absurd rfl (hs z)
      | _ => simp only [lenD, hx M (Dr.refl h), Option.map_some]
    simp only [lenF, this, Option.map_some, pur_some]
  have hp : 0 < xs.length := List.length_pos_iff.mpr h0
  obtain ⟨r, M', h1, h2, h3, h4⟩ := draw_dr h (b := xs.length) (by omega) (by omega)
  obtain ⟨x, hx2⟩ : ∃ x, xs[r.toNat]? = some x := ⟨_, List.getElem?_eq_getElem (by omega)⟩
  refine ⟨x, M', List.mem_of_getElem? hx2, h3, ?_⟩
  have hix : ixA d (.int r) M' = some (x, M') := by
    unfold ixA
    rw [hi M' h3]
    unfold ixD
    simp only
    cases d with
    | str z => exact absurd rfl (hs z)
    | _ => simp only [hx M' h3, Option.bind_some, at_nat h1 hx2, pur_some]
  refine cutF_dr h3 ?_ ?_
  · refine body_rt (e := [some (.ref i), some d]) ?_
    have ee : ([Dt.ref i, d].map some ++ List.replicate (2 - [Dt.ref i, d].length) none : Sl) = [some (.ref i), some d] := rfl
    rw [ee]
    unfold m_pick
    simp only [rtS, opE, callE, consA, nilA, varE, List.getElem?_cons_zero, List.getElem?_cons_succ, thn1_some, hlen, h4, hix]
  · exact cls_mem hc (List.mem_of_getElem? hx2)
end DL
/-! The data layer, part l: the beginning of a law, its end; keys as data. -/
namespace DL
open PySem PySem.Spec PyProof.Rows L2

/-! ### a law from its plain function -/
theorem law_walk {l : PySem.W.OpenLaw} {q : Program} {loose : List Str} {XP : (Str → Option Value) → Heap → Prop} {YP : World → Heap → Prop} {d : DefRec} {K : Params → PySem.W.Frag} {k : Nat} {F : FM} (hn : l.most = some 63) (hdf : d.params.defaults = []) (hr : Room k callerA)
    (hF : ∀ ns : List Int, ns.length ≤ 63 → ∃ M', F [.lsk (ns.map .int)] [] = some (.bl true, M'))
    (hY : ∀ (w : World) (h : Heap), YP w h → (K w.params).In h)
    (G : ∀ (w : World) (mg : Str → Option Value) (fa : Addr) (h : Heap), (K w.params).In h → h.Ns mainGlobals mg → mg d.name = some (.ref fa) →
      ∃ fd : FuncData, (∀ (s : Shared) (u : Value), BindsTo s fd ⟨[u], []⟩ [("script", u)]) ∧ ∀ base : Heap, (K w.params).In base → base.Ns mainGlobals mg → FnOk l.prog w (K w.params) mg base CX0 k fa fd ["script"] (spF (K w.params) w 1 F)) :
    PySem.W.WalkO q loose XP YP l.row.toRowW d [] (fun f vs => PySem.call f vs) :=
  L2.walk_of (n := 63) (k := k) (x := "script") (CX := fun _ => CX0) (sp := fun w => spF (K w.params) w 1 F) hn (by decide) hdf hr hY G (fun w H a ns hl hO hS => by
    obtain ⟨M', hm⟩ := hF ns hl
    have hI : ImL (K w.params) H a (ns.map V.int) := by
      rcases hS with (h | h) | h
      · rcases hO a with z | ⟨o, xs, z⟩
        · rw [z] at h; cases h
        · rw [z] at h; cases h
      · exact .inl h
      · exact .inr h
    have hv : ∀ {w0 : Ws} (ns : List Int), Dvs (K w.params) w w0 (ns.map V.int) (ns.map Dt.int) := fun {w0} ns => by
      induction ns with
      | nil => exact .nil
      | cons n ns ih => exact .cons (.int n) ih
    refine ⟨⟨[], [], H, []⟩, [.lsk (ns.map .int)], .bl true, M', rfl, ⟨rfl, List.nodup_nil, (fun a h => absurd h (by simp)), (fun a h => absurd h (by simp)), fun i a c h => by simp at h⟩, .cons (.lstK hI (hv ns)) .nil, rfl, hm, fun w' v _ _ _ r => ?_⟩
    cases r
    rfl) fun _ _ _ _ _ z => z

/-! ### the state's beginning -/
theorem lc_pure {gd : Mem → Prop} {i : Nat} {el : EM} {e0 : Sl} {g : Dt → Dt} {M : Mem} (hg : gd M) : ∀ (ds acc : List Dt), (∀ d ∈ ds, el (e0.set i (some d)) M = some (g d, M)) → acc.length + ds.length ≤ sizeLine → lcL gd (.one i) yesT el e0 ds acc M = some (acc ++ ds.map g, M)
  | [], acc, _, _ => by
    unfold lcL
    rw [if_pos hg, List.map_nil, List.append_nil]
  | d :: ds, acc, h, hl => by
    rw [List.length_cons] at hl
    unfold lcL
    rw [if_pos hg]
    simp only [Tgt.m, yesT, thn1_some, if_true, h d List.mem_cons_self]
    rw [if_pos (by omega), lc_pure hg ds (acc ++ [g d]) (fun x hx => h x (List.mem_cons_of_mem _ hx)) (by rw [List.length_append, List.length_singleton]; omega)]
    simp
theorem start_dr {ns : List Int} (hl : ns.length ≤ 63) {M : Mem} : ∃ st, F_start [.lsk (ns.map .int)] M = some (.ref M.length, M ++ [some st]) ∧ IsSt M.length (M ++ [some st]) ∧ ∀ n, Cl n st := by
  refine ⟨stD (ns.map fun n => if n < 0 then -n else n) 0 0 (7 + (ns.length : Int)), ?_, ⟨ns.map fun n => if n < 0 then -n else n, 0, 0, 7 + (ns.length : Int), by simp, ⟨?_, by omega, by omega, by omega, by omega⟩⟩, fun n => cl_st n⟩
  · have h1 : lcE (seqI (varE 0)) (.one 1) yesT (callE (pureF absF) (consA (callE (pureF intF) (consA (varE 1) nilA)) nilA)) [1] [some (.lsk (ns.map .int)), none] M = some (.lst ((ns.map fun n => if n < 0 then -n else n).map .int), M) := by
      have := lc_pure (gd := fun _ => True) (i := 1) (el := (callE (pureF absF) (consA (callE (pureF intF) (consA (varE 1) nilA)) nilA))) (e0 := wipeS [some (Dt.lsk (ns.map Dt.int)), none] [1]) (g := fun d => match d with | .int n => .int (if n < 0 then -n else n) | d => d) (M := M) True.intro (ns.map Dt.int) [] (fun d hd => by
        obtain ⟨n, _, rfl⟩ := List.mem_map.mp hd
        rfl) (by rw [List.length_map, sizeLine_eq]; simp; omega)
      unfold lcE
      simp only [seqI, varE, List.getElem?_cons_zero, thn1_some, itemsOf, pur_some]
      rw [this]
      simp [List.map_map, Function.comp_def]
    have h2 : lenF [Dt.lsk (ns.map Dt.int)] M = some (.int (ns.length : Int), M) := by simp [lenF, lenD, seqAt]
    refine body_rt (e := [some (.lsk (ns.map .int)), none]) ?_
    have ee : ([Dt.lsk (ns.map .int)].map some ++ List.replicate (2 - [Dt.lsk (ns.map .int)].length) none : Sl) = [some (.lsk (ns.map .int)), none] := rfl
    rw [ee]
    unfold m_start
    simp only [rtS, dispE, evalP, h1, cE, thn1_some, opE, callE, consA, nilA, varE, List.getElem?_cons_zero, h2, pure2, addD, pur_some, List.map_cons, List.map_nil, strKeys, Option.map_some]
    rw [if_pos ⟨by decide +kernel, by decide⟩]
    rfl
  · intro c hc
    obtain ⟨n, _, rfl⟩ := List.mem_map.mp hc
    split <;> omega

/-! ### keys as data -/
mutual
def toD : NestedKey → Dt
  | .none => .non
  | .num i => .int i
  | .text x => .str x
  | .tup ks => .tup (toDs ks)
def toDs : List NestedKey → List Dt
  | [] => []
  | k :: ks => toD k :: toDs ks
end
theorem toDs_map : ∀ ks : List NestedKey, toDs ks = ks.map toD
  | [] => rfl
  | k :: ks => by rw [toDs, toDs_map ks]; rfl
theorem toD_tup (ks : List NestedKey) : toD (.tup ks) = .tup (ks.map toD) := by rw [toD, toDs_map]
mutual
theorem toOrd_toD : ∀ k : NestedKey, toOrd (toD k) = some k
  | .none => rfl
  | .num _ => rfl
  | .text _ => rfl
  | .tup ks => by rw [toD, toOrd, toOrds_toDs ks]; rfl
theorem toOrds_toDs : ∀ ks : List NestedKey, toOrds (toDs ks) = some ks
  | [] => rfl
  | k :: ks => by rw [toDs, toOrds, toOrd_toD k, toOrds_toDs ks]
end
mutual
theorem toKey_toD : ∀ k : NestedKey, toKey (toD k) = some k
  | .none => rfl
  | .num _ => rfl
  | .text _ => rfl
  | .tup ks => by rw [toD, toKey, toKeys_toDs ks]; rfl
theorem toKeys_toDs : ∀ ks : List NestedKey, toKeys (toDs ks) = some ks
  | [] => rfl
  | k :: ks => by rw [toDs, toKeys, toKey_toD k, toKeys_toDs ks]
end
mutual
theorem toPy_toD : ∀ k : NestedKey, toPy (toD k) = some k.data
  | .none => rfl
  | .num _ => rfl
  | .text _ => rfl
  | .tup ks => by rw [toD, toPy, toPys_toDs ks]; rfl
theorem toPys_toDs : ∀ ks : List NestedKey, toPys (toDs ks) = some (NestedKey.datas ks)
  | [] => rfl
  | k :: ks => by rw [toDs, toPys, toPy_toD k, toPys_toDs ks, NestedKey.datas]
end
theorem toD_inj {a b : NestedKey} (h : toD a = toD b) : a = b := by
  have h1 := toOrd_toD a
  rw [h, toOrd_toD] at h1
  exact (Option.some.inj h1).symm
mutual
theorem cl_toD (n : Nat) : ∀ k : NestedKey, Cl n (toD k)
  | .none => by simp [toD, Cl]
  | .num _ => by simp [toD, Cl]
  | .text _ => by simp [toD, Cl]
  | .tup ks => by rw [toD, Cl]; exact cls_toDs n ks
theorem cls_toDs (n : Nat) : ∀ ks : List NestedKey, Cls n (toDs ks)
  | [] => by simp [toDs, Cls]
  | k :: ks => by rw [toDs, Cls]; exact ⟨cl_toD n k, cls_toDs n ks⟩
end
mutual
/-- texts of code points -/
def txK : NestedKey → Bool
  | .none => true
  | .num _ => true
  | .text x => PyData.strOk x
  | .tup ks => txKs ks
def txKs : List NestedKey → Bool
  | [] => true
  | k :: ks => txK k && txKs ks
end
mutual
theorem lay_data : ∀ k : NestedKey, txK k = true → k.data.canLay0 = true
  | .none, _ => rfl
  | .num _, _ => rfl
  | .text x, h => by rw [txK] at h; rw [NestedKey.data, PyData.canLay0]; exact h
  | .tup ks, h => by rw [txK] at h; rw [NestedKey.data, PyData.canLay0]; exact lay_datas ks h
theorem lay_datas : ∀ ks : List NestedKey, txKs ks = true → PyData.canLayAll0 (NestedKey.datas ks) = true
  | [], _ => rfl
  | k :: ks, h => by
    rw [txKs, Bool.and_eq_true] at h
    rw [NestedKey.datas, PyData.canLayAll0, lay_data k h.1, lay_datas ks h.2]
    rfl
end
mutual
theorem depth_data : ∀ k : NestedKey, k.data.depth = k.depth
  | .none => rfl
  | .num _ => rfl
  | .text _ => rfl
  | .tup ks => by rw [NestedKey.data, PyData.depth, NestedKey.depth, depth_datas ks]
theorem depth_datas : ∀ ks : List NestedKey, PyData.depthAll (NestedKey.datas ks) = NestedKey.depthAll ks
  | [] => rfl
  | k :: ks => by rw [NestedKey.datas, PyData.depthAll, NestedKey.depthAll, depth_data k, depth_datas ks]
end
theorem shaped_data {k : NestedKey} (h : txK k = true) (hd : k.depth ≤ 64) : SeqAt.shaped k.data = true := by
  unfold SeqAt.shaped
  rw [lay_data k h, depth_data, decide_eq_true hd]
  rfl
mutual
theorem eqv_data : ∀ a b : NestedKey, PyData.eqv a.data b.data = NestedKey.beq a b
  | .none, b => by cases b <;> simp [NestedKey.data, PyData.eqv, NestedKey.beq]
  | .num i, b => by cases b <;> simp [NestedKey.data, PyData.eqv, NestedKey.beq] <;> exact Bool.eq_iff_iff.mpr (by simp)
  | .text x, b => by cases b <;> simp [NestedKey.data, PyData.eqv, NestedKey.beq] <;> exact Bool.eq_iff_iff.mpr (by simp)
  | .tup ks, b => by
    cases b with
    | tup js => rw [NestedKey.data, NestedKey.data, PyData.eqv, NestedKey.beq]; exact eqv_datas ks js
    | _ => simp [NestedKey.data, PyData.eqv, NestedKey.beq]
theorem eqv_datas : ∀ as bs : List NestedKey, PyData.eqvAll (NestedKey.datas as) (NestedKey.datas bs) = NestedKey.beqAll as bs
  | [], [] => by simp [NestedKey.datas, PyData.eqvAll, NestedKey.beqAll]
  | [], _ :: _ => by simp [NestedKey.datas, PyData.eqvAll, NestedKey.beqAll]
  | _ :: _, [] => by simp [NestedKey.datas, PyData.eqvAll, NestedKey.beqAll]
  | a :: as, b :: bs => by rw [NestedKey.datas, NestedKey.datas, PyData.eqvAll, NestedKey.beqAll, eqv_data a b, eqv_datas as bs]
end
theorem deref_toD (M : Mem) (k : NestedKey) : deref M (toD k) = toD k := by cases k <;> simp [toD, deref]
/-- == of two keys -/
theorem eqO_toD {M : Mem} {a b : NestedKey} (ha : txK a = true) (hb : txK b = true) (hda : a.depth ≤ 64) (hdb : b.depth ≤ 64) : eqO M (toD a) (toD b) = some (decide (a = b)) := by
  unfold eqO
  rw [deref_toD, deref_toD, toPy_toD, toPy_toD]
  simp only
  rw [if_pos ⟨shaped_data ha hda, shaped_data hb hdb⟩, eqv_data, NestedKey.decide_eq]
theorem ordN_toD {k : NestedKey} (h : k.depth ≤ 16) : ordN (toD k) = some k := by
  unfold ordN
  rw [toOrd_toD]
  simp only
  rw [if_pos h]
theorem ltO_toD {a b : NestedKey} (ha : a.depth ≤ 16) (hb : b.depth ≤ 16) : ltO (toD a) (toD b) = ltK a b := by
  unfold ltO
  rw [ordN_toD ha, ordN_toD hb]
end DL
namespace K28
open PySem PySem.Spec PyProof.Rows L2 DL
def top (i : Nat) : Stmt := PySem.Challenge.pw_everydepth_k28_order_of_things.main.body.getD i (.Pass ⟨0, 0, 0, 0⟩)
/-! ### the defs as plain functions (printed by gen.py) -/
abbrev s_rank : Stmt := top 1
abbrev N_rank : List Str := ["thing", "part"]
theorem sc_rank : FnScope ["thing", "part"] ["thing"] (defScope s_rank) := ⟨rfl, rfl, rfl, by decide +kernel, rfl, by decide +kernel, by decide +kernel⟩
noncomputable def m_rank (R_rank : FM) : SM :=
    (seqS (ifS (blT (opE (pure2 isND) (varE 0) (cE .non))) (rtS (tupE (consA (cE (.int 0)) nilA))) nxS)
    (seqS (ifS (truT (callE isiF (consA (varE 0) (consA (cE (.ty "tuple")) nilA)))) (rtS (tupE (consA (cE (.int 3)) (starA (lcE (seqI (varE 0)) (.one 1) yesT (callE R_rank (consA (varE 1) nilA)) [1]) nilA)))) nxS)
    (seqS (ifS (truT (callE isiF (consA (varE 0) (consA (cE (.ty "str")) nilA)))) (rtS (tupE (consA (cE (.int 2)) (consA (varE 0) nilA)))) nxS)
    (rtS (tupE (consA (cE (.int 1)) (consA (varE 0) nilA)))))))
noncomputable def F_rank : Nat → FM
  | 0 => fun _ _ => none
  | n + 1 => cutF (body 2 (m_rank (F_rank n)))
abbrev s_law_start : Stmt := top 3
abbrev N_law_start : List Str := ["script", "cell"]
theorem sc_law_start : FnScope ["script", "cell"] ["script"] (defScope s_law_start) := ⟨rfl, rfl, rfl, by decide +kernel, rfl, by decide +kernel, by decide +kernel⟩
noncomputable def m_law_start : SM :=
    (rtS (dispE [((cE (.str "cells")), (lcE (seqI (varE 0)) (.one 1) yesT (callE (pureF absF) (consA (callE (pureF intF) (consA (varE 1) nilA)) nilA)) [1])), ((cE (.str "at")), (cE (.int 0))), ((cE (.str "left")), (cE (.int 0))), ((cE (.str "mix")), (opE (pure2 addD) (cE (.int 7)) (callE lenF (consA (varE 0) nilA))))]))
noncomputable def F_law_start : FM := (body 2 m_law_start)
abbrev s_law_draw : Stmt := top 4
abbrev N_law_draw : List Str := ["state", "bound", "cell", "number"]
theorem sc_law_draw : FnScope ["state", "bound", "cell", "number"] ["state", "bound"] (defScope s_law_draw) := ⟨rfl, rfl, rfl, by decide +kernel, rfl, by decide +kernel, by decide +kernel⟩
noncomputable def m_law_draw : SM :=
    (seqS (ifS (andT (blT (opE eqD (opE ixA (varE 0) (cE (.str "left"))) (cE (.int 0)))) (blT (opE ltD (opE ixA (varE 0) (cE (.str "at"))) (callE lenF (consA (opE ixA (varE 0) (cE (.str "cells"))) nilA))))) (seqS (setS 2 (opE ixA (opE ixA (varE 0) (cE (.str "cells"))) (opE ixA (varE 0) (cE (.str "at")))))
    (seqS (asgS (opE (pure2 addD) (opE ixA (varE 0) (cE (.str "at"))) (cE (.int 1))) (subG (varE 0) (cE (.str "at"))))
    (seqS (asgS (opE (pure2 fmodD) (callE (pureF intF) (consA (opE (pure2 addD) (opE (pure2 addD) (opE (pure2 mulD) (opE ixA (varE 0) (cE (.str "mix"))) (cE (.int 48271))) (varE 2)) (cE (.int 11))) nilA)) (cE (.int 2147483647))) (subG (varE 0) (cE (.str "mix"))))
    (seqS (ifS (blT (opE ltD (varE 2) (opE (pure2 powD) (cE (.int 10)) (cE (.int 18))))) (rtS (opE (pure2 fmodD) (callE (pureF intF) (consA (varE 2) nilA)) (varE 1))) nxS)
    (asgS (varE 2) (subG (varE 0) (cE (.str "left")))))))) nxS)
    (seqS (ifS (blT (opE (pure2 gtI) (opE ixA (varE 0) (cE (.str "left"))) (cE (.int 0)))) (seqS (setS 3 (opE (pure2 fmodD) (callE (pureF intF) (consA (opE ixA (varE 0) (cE (.str "left"))) nilA)) (varE 1)))
    (seqS (asgS (opE (pure2 fdivD) (opE ixA (varE 0) (cE (.str "left"))) (varE 1)) (subG (varE 0) (cE (.str "left"))))
    (rtS (varE 3)))) nxS)
    (seqS (asgS (opE (pure2 fmodD) (callE (pureF intF) (consA (opE (pure2 addD) (opE (pure2 mulD) (opE ixA (varE 0) (cE (.str "mix"))) (cE (.int 48271))) (cE (.int 11))) nilA)) (cE (.int 2147483647))) (subG (varE 0) (cE (.str "mix"))))
    (rtS (opE (pure2 fmodD) (callE (pureF intF) (consA (opE (pure2 fmodD) (callE (pureF intF) (consA (opE (pure2 addD) (opE (pure2 mulD) (opE ixA (varE 0) (cE (.str "mix"))) (cE (.int 69621))) (cE (.int 5))) nilA)) (cE (.int 2147483629))) nilA)) (varE 1))))))
noncomputable def F_law_draw : FM := cutF (body 4 m_law_draw)
abbrev s_law_pick : Stmt := top 5
abbrev N_law_pick : List Str := ["state", "things"]
theorem sc_law_pick : FnScope ["state", "things"] ["state", "things"] (defScope s_law_pick) := ⟨rfl, rfl, rfl, by decide +kernel, rfl, by decide +kernel, by decide +kernel⟩
noncomputable def m_law_pick : SM :=
    (rtS (opE ixA (varE 1) (callE F_law_draw (consA (varE 0) (consA (callE lenF (consA (varE 1) nilA)) nilA)))))
noncomputable def F_law_pick : FM := cutF (body 2 m_law_pick)
abbrev s_law_is : Stmt := top 6
abbrev N_law_is : List Str := ["actual", "due"]
theorem sc_law_is : FnScope ["actual", "due"] ["actual", "due"] (defScope s_law_is) := ⟨rfl, rfl, rfl, by decide +kernel, rfl, by decide +kernel, by decide +kernel⟩
noncomputable def m_law_is : SM :=
    (rtS (andE (callE isiF (consA (varE 0) (consA (cE (.ty "bool")) nilA))) (opE eqD (varE 0) (varE 1))))
noncomputable def F_law_is : FM := cutF (body 2 m_law_is)
abbrev s_law_thing : Stmt := top 7
abbrev N_law_thing : List Str := ["state", "deep", "kind", "k"]
theorem sc_law_thing : FnScope ["state", "deep", "kind", "k"] ["state", "deep"] (defScope s_law_thing) := ⟨rfl, rfl, rfl, by decide +kernel, rfl, by decide +kernel, by decide +kernel⟩
noncomputable def m_law_thing (R_law_thing : FM) : SM :=
    (seqS (setS 2 (callE F_law_draw (consA (varE 0) (consA (ifE (blT (opE (pure2 gtI) (varE 1) (cE (.int 0)))) (cE (.int 5)) (cE (.int 3))) nilA))))
    (seqS (ifS (blT (opE eqD (varE 2) (cE (.int 0)))) (rtS (callE F_law_pick (consA (varE 0) (consA (lstE (consA (cE .non) (consA (cE (.int 0)) (consA (cE (.int 1)) (consA (unE negD (cE (.int 5))) (consA (opE (pure2 powD) (cE (.int 10)) (cE (.int 20))) nilA)))))) nilA)))) nxS)
    (seqS (ifS (blT (opE ltD (varE 2) (cE (.int 3)))) (rtS (callE F_law_pick (consA (varE 0) (consA (lstE (consA (cE (.str "")) (consA (cE (.str "a")) (consA (cE (.str "ab")) (consA (cE (.str "b")) (consA (cE (.int 7)) (consA (cE (.int 8)) (consA (cE .non) nilA)))))))) nilA)))) nxS)
    (rtS (callE tupleF (consA (lcE (rngI (consA (callE F_law_draw (consA (varE 0) (consA (cE (.int 4)) nilA))) nilA)) (.one 3) yesT (callE R_law_thing (consA (varE 0) (consA (opE (pure2 subD) (varE 1) (cE (.int 1))) nilA))) [3]) nilA))))))
noncomputable def F_law_thing : Nat → FM
  | 0 => fun _ _ => none
  | n + 1 => cutF (body 4 (m_law_thing (F_law_thing n)))
abbrev s_law_kind : Stmt := top 8
abbrev N_law_kind : List Str := ["thing"]
theorem sc_law_kind : FnScope ["thing"] ["thing"] (defScope s_law_kind) := ⟨rfl, rfl, rfl, by decide +kernel, rfl, by decide +kernel, by decide +kernel⟩
noncomputable def m_law_kind : SM :=
    (seqS (ifS (blT (opE (pure2 isND) (varE 0) (cE .non))) (rtS (cE (.int 0))) nxS)
    (seqS (ifS (truT (callE isiF (consA (varE 0) (consA (cE (.ty "tuple")) nilA)))) (rtS (cE (.int 3))) nxS)
    (rtS (ifE (truT (callE isiF (consA (varE 0) (consA (cE (.ty "str")) nilA)))) (cE (.int 2)) (cE (.int 1))))))
noncomputable def F_law_kind : FM := cutF (body 1 m_law_kind)
abbrev s_law_ahead : Stmt := top 9
abbrev N_law_ahead : List Str := ["one", "two", "k"]
theorem sc_law_ahead : FnScope ["one", "two", "k"] ["one", "two"] (defScope s_law_ahead) := ⟨rfl, rfl, rfl, by decide +kernel, rfl, by decide +kernel, by decide +kernel⟩
noncomputable def m_law_ahead (R_law_ahead : FM) : SM :=
    (seqS (ifS (blT (opE neD (callE F_law_kind (consA (varE 0) nilA)) (callE F_law_kind (consA (varE 1) nilA)))) (rtS (opE ltD (callE F_law_kind (consA (varE 0) nilA)) (callE F_law_kind (consA (varE 1) nilA)))) nxS)
    (seqS (ifS (blT (opE (pure2 isND) (varE 0) (cE .non))) (rtS (cE (.bl false))) nxS)
    (seqS (ifS (notT (truT (callE isiF (consA (varE 0) (consA (cE (.ty "tuple")) nilA))))) (rtS (opE ltD (varE 0) (varE 1))) nxS)
    (seqS (forS (rngI (consA (callE (pureF minF) (consA (callE lenF (consA (varE 0) nilA)) (consA (callE lenF (consA (varE 1) nilA)) nilA))) nilA)) (nameG 2) (ifS (blT (opE neD (opE ixA (varE 0) (varE 2)) (opE ixA (varE 1) (varE 2)))) (rtS (callE R_law_ahead (consA (opE ixA (varE 0) (varE 2)) (consA (opE ixA (varE 1) (varE 2)) nilA)))) nxS))
    (rtS (opE ltD (callE lenF (consA (varE 0) nilA)) (callE lenF (consA (varE 1) nilA))))))))
noncomputable def F_law_ahead : Nat → FM
  | 0 => fun _ _ => none
  | n + 1 => cutF (body 3 (m_law_ahead (F_law_ahead n)))
abbrev s_law : Stmt := top 10
abbrev N_law : List Str := ["script", "state", "one", "two", "things", "ordered", "k"]
theorem sc_law : FnScope ["script", "state", "one", "two", "things", "ordered", "k"] ["script"] (defScope s_law) := ⟨rfl, rfl, rfl, by decide +kernel, rfl, by decide +kernel, by decide +kernel⟩
noncomputable def m_law : SM :=
    (seqS (setS 1 (callE F_law_start (consA (varE 0) nilA)))
    (seqS (setS 2 (callE (F_law_thing 5) (consA (varE 1) (consA (cE (.int 3)) nilA))))
    (seqS (setS 3 (callE (F_law_thing 5) (consA (varE 1) (consA (cE (.int 3)) nilA))))
    (seqS (ifS (andT (truT (callE isiF (consA (varE 2) (consA (cE (.ty "tuple")) nilA)))) (blT (opE eqD (callE F_law_draw (consA (varE 1) (consA (cE (.int 2)) nilA))) (cE (.int 0))))) (setS 3 (opE (pure2 addD) (slE (varE 2) noO (someO (callE F_law_draw (consA (varE 1) (consA (opE (pure2 addD) (callE lenF (consA (varE 2) nilA)) (cE (.int 1))) nilA))))) (callE F_law_pick (consA (varE 1) (consA (lstE (consA (tupE nilA) (consA (tupE (consA (cE .non) nilA)) (consA (tupE (consA (cE (.str "a")) nilA)) nilA)))) nilA))))) nxS)
    (seqS (ifS (orT (notT (truT (callE F_law_is (consA (opE ltD (callE (F_rank 6) (consA (varE 2) nilA)) (callE (F_rank 6) (consA (varE 3) nilA))) (consA (callE (F_law_ahead 6) (consA (varE 2) (consA (varE 3) nilA))) nilA))))) (blT (opE neD (opE eqD (callE (F_rank 6) (consA (varE 2) nilA)) (callE (F_rank 6) (consA (varE 3) nilA))) (opE eqD (varE 2) (varE 3))))) (rtS (cE (.bl false))) nxS)
    (seqS (setS 4 (lstE (consA (varE 2) (consA (varE 3) (consA (callE (F_law_thing 5) (consA (varE 1) (consA (cE (.int 2)) nilA))) (consA (callE (F_law_thing 5) (consA (varE 1) (consA (cE (.int 1)) nilA))) nilA))))))
    (seqS (setS 5 (sortE (F_rank 6) (varE 4)))
    (rtS (unE notD (callE anyF (consA (lcE (rngI (consA (cE (.int 3)) nilA)) (.one 6) yesT (callE (F_law_ahead 6) (consA (opE ixA (varE 5) (opE (pure2 addD) (varE 6) (cE (.int 1)))) (consA (opE ixA (varE 5) (varE 6)) nilA))) [6]) nilA)))))))))))
noncomputable def F_law : FM := cutF (body 7 m_law)
/-! ### what the top has written -/
structure Txt (K : PySem.W.Frag) (mg : Str → Option Value) where
  a_rank : Addr
  fd_rank : FuncData
  F_rank : Fun K "rank" "rank" s_rank a_rank fd_rank
  b_rank : Binds K fd_rank ["thing"] []
  g_rank : mg "rank" = some (.ref a_rank)
  a_law_start : Addr
  fd_law_start : FuncData
  F_law_start : Fun K "_law_start" "_law_start" s_law_start a_law_start fd_law_start
  b_law_start : Binds K fd_law_start ["script"] []
  g_law_start : mg "_law_start" = some (.ref a_law_start)
  a_law_draw : Addr
  fd_law_draw : FuncData
  F_law_draw : Fun K "_law_draw" "_law_draw" s_law_draw a_law_draw fd_law_draw
  b_law_draw : Binds K fd_law_draw ["state", "bound"] []
  g_law_draw : mg "_law_draw" = some (.ref a_law_draw)
  a_law_pick : Addr
  fd_law_pick : FuncData
  F_law_pick : Fun K "_law_pick" "_law_pick" s_law_pick a_law_pick fd_law_pick
  b_law_pick : Binds K fd_law_pick ["state", "things"] []
  g_law_pick : mg "_law_pick" = some (.ref a_law_pick)
  a_law_is : Addr
  fd_law_is : FuncData
  F_law_is : Fun K "_law_is" "_law_is" s_law_is a_law_is fd_law_is
  b_law_is : Binds K fd_law_is ["actual", "due"] []
  g_law_is : mg "_law_is" = some (.ref a_law_is)
  a_law_thing : Addr
  fd_law_thing : FuncData
  F_law_thing : Fun K "_law_thing" "_law_thing" s_law_thing a_law_thing fd_law_thing
  b_law_thing : Binds K fd_law_thing ["state", "deep"] []
  g_law_thing : mg "_law_thing" = some (.ref a_law_thing)
  a_law_kind : Addr
  fd_law_kind : FuncData
  F_law_kind : Fun K "_law_kind" "_law_kind" s_law_kind a_law_kind fd_law_kind
  b_law_kind : Binds K fd_law_kind ["thing"] []
  g_law_kind : mg "_law_kind" = some (.ref a_law_kind)
  a_law_ahead : Addr
  fd_law_ahead : FuncData
  F_law_ahead : Fun K "_law_ahead" "_law_ahead" s_law_ahead a_law_ahead fd_law_ahead
  b_law_ahead : Binds K fd_law_ahead ["one", "two"] []
  g_law_ahead : mg "_law_ahead" = some (.ref a_law_ahead)
  a_law : Addr
  fd_law : FuncData
  F_law : Fun K "law" "law" s_law a_law fd_law
  b_law : Binds K fd_law ["script"] []
  g_law : mg "law" = some (.ref a_law)
  z_abs : mg "abs" = none
  z_any : mg "any" = none
  z_bool : mg "bool" = none
  z_int : mg "int" = none
  z_isinstance : mg "isinstance" = none
  z_len : mg "len" = none
  z_min : mg "min" = none
  z_range : mg "range" = none
  z_sorted : mg "sorted" = none
  z_str : mg "str" = none
  z_tuple : mg "tuple" = none
section
variable {P : Program} {W : World} {K : PySem.W.Frag} {mg : Str → Option Value} {base : Heap}
theorem ok_rank (T : Txt K mg) : ∀ n : Nat, FnOk P W K mg base CX0 (0 + n) T.a_rank T.fd_rank ["thing"] (spF K W 1 (F_rank n))
  | 0 => fn_none
  | n + 1 => by
    have G_rank := ok_rank T n
    refine FnOk.cut (fn_ok (k := 0 + n) T.F_rank sc_rank fun cdv A outer s H E hr => ?_)
    exact (rss_cons (rs_if (rt_isN re_var re_non) (rss_one (rs_ret (re_tup (ra_cons re_int ra_nil)))) rss_nil)
    (rss_cons (rs_if (rt_tru (re_callB call_isi isi_ok (by rfl) T.z_isinstance (by decide +kernel) (ra_cons re_var (ra_cons (re_ty (by rfl) T.z_tuple (by decide +kernel)) ra_nil)))) (rss_one (rs_ret (re_tup (ra_cons re_int (ra_star (re_lc (t := (.one 1)) (own := [("part", 1)]) rfl sc_rank.nd (ri_seq re_var) (blkOk_by (N := N_rank) (sc := defScope s_rank) (by decide +kernel)) (fun _ _ _ _ _ => pg_name (i := 1) sc_rank.nd rfl (Or.inl rfl)) (fun _ _ _ _ _ => rts_nil) (fun _ _ _ _ _ => (re_call G_rank (hr.mono (by omega)) (by rfl) T.g_rank T.F_rank.kp T.b_rank (ra_cons re_var ra_nil) (consA_len (fun _ _ _ _ h => nilA_len h)))) (by decide)) ra_nil))))) rss_nil)
    (rss_cons (rs_if (rt_tru (re_callB call_isi isi_ok (by rfl) T.z_isinstance (by decide +kernel) (ra_cons re_var (ra_cons (re_ty (by rfl) T.z_str (by decide +kernel)) ra_nil)))) (rss_one (rs_ret (re_tup (ra_cons re_int (ra_cons re_var ra_nil))))) rss_nil)
    (rss_one (rs_ret (re_tup (ra_cons re_int (ra_cons re_var ra_nil))))))))
theorem ok_law_start (T : Txt K mg) : FnOk P W K mg base CX0 1 T.a_law_start T.fd_law_start ["script"] (spF K W 1 F_law_start) := by
  refine (fn_ok (k := 0) T.F_law_start sc_law_start fun cdv A outer s H E hr => ?_)
  exact (rss_one (rs_ret (re_disp (pm := [((cE (.str "cells")), (lcE (seqI (varE 0)) (.one 1) yesT (callE (pureF absF) (consA (callE (pureF intF) (consA (varE 1) nilA)) nilA)) [1])), ((cE (.str "at")), (cE (.int 0))), ((cE (.str "left")), (cE (.int 0))), ((cE (.str "mix")), (opE (pure2 addD) (cE (.int 7)) (callE lenF (consA (varE 0) nilA))))]) (pps_consD re_str (re_lc (t := (.one 1)) (own := [("cell", 1)]) rfl sc_law_start.nd (ri_seq re_var) (blkOk_by (N := N_law_start) (sc := defScope s_law_start) (by decide +kernel)) (fun _ _ _ _ _ => pg_name (i := 1) sc_law_start.nd rfl (Or.inl rfl)) (fun _ _ _ _ _ => rts_nil) (fun _ _ _ _ _ => (re_callB call_abs abs_ok (by rfl) T.z_abs (by decide +kernel) (ra_cons (re_callTy call_int1 int_ok (by rfl) T.z_int (by decide +kernel) (ra_cons re_var ra_nil)) ra_nil))) (by decide)) (pps_consD re_str re_int (pps_consD re_str re_int (pps_consD re_str (re_add re_int (re_callB call_len len_ok (by rfl) T.z_len (by decide +kernel) (ra_cons re_var ra_nil))) pps_nilD)))) (by rfl) (by rfl) (fun z => by cases z) (by decide))))
theorem ok_law_draw (T : Txt K mg) : FnOk P W K mg base CX0 1 T.a_law_draw T.fd_law_draw ["state", "bound"] (spF K W 2 F_law_draw) := by
  refine FnOk.cut (fn_ok (k := 0) T.F_law_draw sc_law_draw fun cdv A outer s H E hr => ?_)
  exact (rss_cons (rs_if (rt_w (rw_and (rt_eq hr (re_ixA hr re_var re_str) re_int) (rw_and1 (rt_lt hr (re_ixA hr re_var re_str) (re_callB call_len len_ok (by rfl) T.z_len (by decide +kernel) (ra_cons (re_ixA hr re_var re_str) ra_nil)))))) (rss_cons (rs_set sc_law_draw.nd (re_ixA hr (re_ixA hr re_var re_str) (re_ixA hr re_var re_str)))
    (rss_cons (rs_asg (re_add (re_ixA hr re_var re_str) re_int) (rg_sub hr re_var re_str))
    (rss_cons (rs_asg (re_mod (re_callTy call_int1 int_ok (by rfl) T.z_int (by decide +kernel) (ra_cons (re_add (re_add (re_mul (re_ixA hr re_var re_str) re_int) re_var) re_int) ra_nil)) re_int) (rg_sub hr re_var re_str))
    (rss_cons (rs_if (rt_lt hr re_var (re_pow re_int re_int)) (rss_one (rs_ret (re_mod (re_callTy call_int1 int_ok (by rfl) T.z_int (by decide +kernel) (ra_cons re_var ra_nil)) re_var))) rss_nil)
    (rss_one (rs_asg re_var (rg_sub hr re_var re_str))))))) rss_nil)
    (rss_cons (rs_if (rt_gt (re_ixA hr re_var re_str) re_int) (rss_cons (rs_set sc_law_draw.nd (re_mod (re_callTy call_int1 int_ok (by rfl) T.z_int (by decide +kernel) (ra_cons (re_ixA hr re_var re_str) ra_nil)) re_var))
    (rss_cons (rs_asg (re_fdiv (re_ixA hr re_var re_str) re_var) (rg_sub hr re_var re_str))
    (rss_one (rs_ret re_var)))) rss_nil)
    (rss_cons (rs_asg (re_mod (re_callTy call_int1 int_ok (by rfl) T.z_int (by decide +kernel) (ra_cons (re_add (re_mul (re_ixA hr re_var re_str) re_int) re_int) ra_nil)) re_int) (rg_sub hr re_var re_str))
    (rss_one (rs_ret (re_mod (re_callTy call_int1 int_ok (by rfl) T.z_int (by decide +kernel) (ra_cons (re_mod (re_callTy call_int1 int_ok (by rfl) T.z_int (by decide +kernel) (ra_cons (re_add (re_mul (re_ixA hr re_var re_str) re_int) re_int) ra_nil)) re_int) ra_nil)) re_var))))))
theorem ok_law_pick (T : Txt K mg) : FnOk P W K mg base CX0 2 T.a_law_pick T.fd_law_pick ["state", "things"] (spF K W 2 F_law_pick) := by
  refine FnOk.cut (fn_ok (k := 1) T.F_law_pick sc_law_pick fun cdv A outer s H E hr => ?_)
  exact (rss_one (rs_ret (re_ixA hr re_var (re_call (ok_law_draw T) (hr.mono (by decide)) (by rfl) T.g_law_draw T.F_law_draw.kp T.b_law_draw (ra_cons re_var (ra_cons (re_callB call_len len_ok (by rfl) T.z_len (by decide +kernel) (ra_cons re_var ra_nil)) ra_nil)) (consA_len (consA_len (fun _ _ _ _ h => nilA_len h)))))))
theorem ok_law_is (T : Txt K mg) : FnOk P W K mg base CX0 1 T.a_law_is T.fd_law_is ["actual", "due"] (spF K W 2 F_law_is) := by
  refine FnOk.cut (fn_ok (k := 0) T.F_law_is sc_law_is fun cdv A outer s H E hr => ?_)
  exact (rss_one (rs_ret (re_and (re_callB call_isi isi_ok (by rfl) T.z_isinstance (by decide +kernel) (ra_cons re_var (ra_cons (re_ty (by rfl) T.z_bool (by decide +kernel)) ra_nil))) (re_one (re_eq hr re_var re_var)))))
theorem ok_law_thing (T : Txt K mg) : ∀ n : Nat, FnOk P W K mg base CX0 (2 + n) T.a_law_thing T.fd_law_thing ["state", "deep"] (spF K W 2 (F_law_thing n))
  | 0 => fn_none
  | n + 1 => by
    have G_law_thing := ok_law_thing T n
    refine FnOk.cut (fn_ok (k := 2 + n) T.F_law_thing sc_law_thing fun cdv A outer s H E hr => ?_)
    exact (rss_cons (rs_set sc_law_thing.nd (re_call (ok_law_draw T) (hr.mono (by omega)) (by rfl) T.g_law_draw T.F_law_draw.kp T.b_law_draw (ra_cons re_var (ra_cons (re_if (rt_gt re_var re_int) re_int re_int) ra_nil)) (consA_len (consA_len (fun _ _ _ _ h => nilA_len h)))))
    (rss_cons (rs_if (rt_eq hr re_var re_int) (rss_one (rs_ret (re_call (ok_law_pick T) (hr.mono (by omega)) (by rfl) T.g_law_pick T.F_law_pick.kp T.b_law_pick (ra_cons re_var (ra_cons (re_lst (ra_cons re_non (ra_cons re_int (ra_cons re_int (ra_cons (re_neg re_int) (ra_cons (re_pow re_int re_int) ra_nil)))))) ra_nil)) (consA_len (consA_len (fun _ _ _ _ h => nilA_len h)))))) rss_nil)
    (rss_cons (rs_if (rt_lt hr re_var re_int) (rss_one (rs_ret (re_call (ok_law_pick T) (hr.mono (by omega)) (by rfl) T.g_law_pick T.F_law_pick.kp T.b_law_pick (ra_cons re_var (ra_cons (re_lst (ra_cons re_str (ra_cons re_str (ra_cons re_str (ra_cons re_str (ra_cons re_int (ra_cons re_int (ra_cons re_non ra_nil)))))))) ra_nil)) (consA_len (consA_len (fun _ _ _ _ h => nilA_len h)))))) rss_nil)
    (rss_one (rs_ret (re_callTy call_tuple_of tuple_ok (by rfl) T.z_tuple (by decide +kernel) (ra_cons (re_lc (t := (.one 3)) (own := [("k", 3)]) rfl sc_law_thing.nd (ri_range1 (by rfl) T.z_range (ra_cons (re_call (ok_law_draw T) (hr.mono (by omega)) (by rfl) T.g_law_draw T.F_law_draw.kp T.b_law_draw (ra_cons re_var (ra_cons re_int ra_nil)) (consA_len (consA_len (fun _ _ _ _ h => nilA_len h)))) ra_nil) (consA_len (fun _ _ _ _ h => nilA_len h))) (blkOk_by (N := N_law_thing) (sc := defScope s_law_thing) (by decide +kernel)) (fun _ _ _ _ _ => pg_name (i := 3) sc_law_thing.nd rfl (Or.inl rfl)) (fun _ _ _ _ _ => rts_nil) (fun _ _ _ _ _ => (re_call G_law_thing (hr.mono (by omega)) (by rfl) T.g_law_thing T.F_law_thing.kp T.b_law_thing (ra_cons re_var (ra_cons (re_sub re_var re_int) ra_nil)) (consA_len (consA_len (fun _ _ _ _ h => nilA_len h))))) (by decide)) ra_nil)))))))
theorem ok_law_kind (T : Txt K mg) : FnOk P W K mg base CX0 1 T.a_law_kind T.fd_law_kind ["thing"] (spF K W 1 F_law_kind) := by
  refine FnOk.cut (fn_ok (k := 0) T.F_law_kind sc_law_kind fun cdv A outer s H E hr => ?_)
  exact (rss_cons (rs_if (rt_isN re_var re_non) (rss_one (rs_ret re_int)) rss_nil)
    (rss_cons (rs_if (rt_tru (re_callB call_isi isi_ok (by rfl) T.z_isinstance (by decide +kernel) (ra_cons re_var (ra_cons (re_ty (by rfl) T.z_tuple (by decide +kernel)) ra_nil)))) (rss_one (rs_ret re_int)) rss_nil)
    (rss_one (rs_ret (re_if (rt_tru (re_callB call_isi isi_ok (by rfl) T.z_isinstance (by decide +kernel) (ra_cons re_var (ra_cons (re_ty (by rfl) T.z_str (by decide +kernel)) ra_nil)))) re_int re_int)))))
theorem ok_law_ahead (T : Txt K mg) : ∀ n : Nat, FnOk P W K mg base CX0 (1 + n) T.a_law_ahead T.fd_law_ahead ["one", "two"] (spF K W 2 (F_law_ahead n))
  | 0 => fn_none
  | n + 1 => by
    have G_law_ahead := ok_law_ahead T n
    refine FnOk.cut (fn_ok (k := 1 + n) T.F_law_ahead sc_law_ahead fun cdv A outer s H E hr => ?_)
    exact (rss_cons (rs_if (rt_ne hr (re_call (ok_law_kind T) (hr.mono (by omega)) (by rfl) T.g_law_kind T.F_law_kind.kp T.b_law_kind (ra_cons re_var ra_nil) (consA_len (fun _ _ _ _ h => nilA_len h))) (re_call (ok_law_kind T) (hr.mono (by omega)) (by rfl) T.g_law_kind T.F_law_kind.kp T.b_law_kind (ra_cons re_var ra_nil) (consA_len (fun _ _ _ _ h => nilA_len h)))) (rss_one (rs_ret (re_lt hr (re_call (ok_law_kind T) (hr.mono (by omega)) (by rfl) T.g_law_kind T.F_law_kind.kp T.b_law_kind (ra_cons re_var ra_nil) (consA_len (fun _ _ _ _ h => nilA_len h))) (re_call (ok_law_kind T) (hr.mono (by omega)) (by rfl) T.g_law_kind T.F_law_kind.kp T.b_law_kind (ra_cons re_var ra_nil) (consA_len (fun _ _ _ _ h => nilA_len h)))))) rss_nil)
    (rss_cons (rs_if (rt_isN re_var re_non) (rss_one (rs_ret re_bl)) rss_nil)
    (rss_cons (rs_if (rt_not (rt_tru (re_callB call_isi isi_ok (by rfl) T.z_isinstance (by decide +kernel) (ra_cons re_var (ra_cons (re_ty (by rfl) T.z_tuple (by decide +kernel)) ra_nil))))) (rss_one (rs_ret (re_lt hr re_var re_var))) rss_nil)
    (rss_cons (rs_for PassesOwn.never rfl (ri_range1 (by rfl) T.z_range (ra_cons (re_callB (call_min2 rfl) min_ok (by rfl) T.z_min (by decide +kernel) (ra_cons (re_callB call_len len_ok (by rfl) T.z_len (by decide +kernel) (ra_cons re_var ra_nil)) (ra_cons (re_callB call_len len_ok (by rfl) T.z_len (by decide +kernel) (ra_cons re_var ra_nil)) ra_nil))) ra_nil) (consA_len (fun _ _ _ _ h => nilA_len h))) (rg_name sc_law_ahead.nd) (rss_one (rs_if (rt_ne hr (re_ixA hr re_var re_var) (re_ixA hr re_var re_var)) (rss_one (rs_ret (re_call G_law_ahead (hr.mono (by omega)) (by rfl) T.g_law_ahead T.F_law_ahead.kp T.b_law_ahead (ra_cons (re_ixA hr re_var re_var) (ra_cons (re_ixA hr re_var re_var) ra_nil)) (consA_len (consA_len (fun _ _ _ _ h => nilA_len h)))))) rss_nil)))
    (rss_one (rs_ret (re_lt hr (re_callB call_len len_ok (by rfl) T.z_len (by decide +kernel) (ra_cons re_var ra_nil)) (re_callB call_len len_ok (by rfl) T.z_len (by decide +kernel) (ra_cons re_var ra_nil)))))))))
theorem ok_law (T : Txt K mg) : FnOk P W K mg base CX0 8 T.a_law T.fd_law ["script"] (spF K W 1 F_law) := by
  refine FnOk.cut (fn_ok (k := 7) T.F_law sc_law fun cdv A outer s H E hr => ?_)
  exact (rss_cons (rs_set sc_law.nd (re_call (ok_law_start T) (hr.mono (by decide)) (by rfl) T.g_law_start T.F_law_start.kp T.b_law_start (ra_cons re_var ra_nil) (consA_len (fun _ _ _ _ h => nilA_len h))))
    (rss_cons (rs_set sc_law.nd (re_call (ok_law_thing T 5) (hr.mono (by decide)) (by rfl) T.g_law_thing T.F_law_thing.kp T.b_law_thing (ra_cons re_var (ra_cons re_int ra_nil)) (consA_len (consA_len (fun _ _ _ _ h => nilA_len h)))))
    (rss_cons (rs_set sc_law.nd (re_call (ok_law_thing T 5) (hr.mono (by decide)) (by rfl) T.g_law_thing T.F_law_thing.kp T.b_law_thing (ra_cons re_var (ra_cons re_int ra_nil)) (consA_len (consA_len (fun _ _ _ _ h => nilA_len h)))))
    (rss_cons (rs_if (rt_w (rw_and (rt_tru (re_callB call_isi isi_ok (by rfl) T.z_isinstance (by decide +kernel) (ra_cons re_var (ra_cons (re_ty (by rfl) T.z_tuple (by decide +kernel)) ra_nil)))) (rw_and1 (rt_eq hr (re_call (ok_law_draw T) (hr.mono (by decide)) (by rfl) T.g_law_draw T.F_law_draw.kp T.b_law_draw (ra_cons re_var (ra_cons re_int ra_nil)) (consA_len (consA_len (fun _ _ _ _ h => nilA_len h)))) re_int)))) (rss_one (rs_set sc_law.nd (re_add (re_sl re_var ro_none (ro_some (re_call (ok_law_draw T) (hr.mono (by decide)) (by rfl) T.g_law_draw T.F_law_draw.kp T.b_law_draw (ra_cons re_var (ra_cons (re_add (re_callB call_len len_ok (by rfl) T.z_len (by decide +kernel) (ra_cons re_var ra_nil)) re_int) ra_nil)) (consA_len (consA_len (fun _ _ _ _ h => nilA_len h)))))) (re_call (ok_law_pick T) (hr.mono (by decide)) (by rfl) T.g_law_pick T.F_law_pick.kp T.b_law_pick (ra_cons re_var (ra_cons (re_lst (ra_cons (re_tup ra_nil) (ra_cons (re_tup (ra_cons re_non ra_nil)) (ra_cons (re_tup (ra_cons re_str ra_nil)) ra_nil)))) ra_nil)) (consA_len (consA_len (fun _ _ _ _ h => nilA_len h))))))) rss_nil)
    (rss_cons (rs_if (rt_w (rw_or (rt_not (rt_tru (re_call (ok_law_is T) (hr.mono (by decide)) (by rfl) T.g_law_is T.F_law_is.kp T.b_law_is (ra_cons (re_lt hr (re_call (ok_rank T 6) (hr.mono (by decide)) (by rfl) T.g_rank T.F_rank.kp T.b_rank (ra_cons re_var ra_nil) (consA_len (fun _ _ _ _ h => nilA_len h))) (re_call (ok_rank T 6) (hr.mono (by decide)) (by rfl) T.g_rank T.F_rank.kp T.b_rank (ra_cons re_var ra_nil) (consA_len (fun _ _ _ _ h => nilA_len h)))) (ra_cons (re_call (ok_law_ahead T 6) (hr.mono (by decide)) (by rfl) T.g_law_ahead T.F_law_ahead.kp T.b_law_ahead (ra_cons re_var (ra_cons re_var ra_nil)) (consA_len (consA_len (fun _ _ _ _ h => nilA_len h)))) ra_nil)) (consA_len (consA_len (fun _ _ _ _ h => nilA_len h)))))) (rw_or1 (rt_ne hr (re_eq hr (re_call (ok_rank T 6) (hr.mono (by decide)) (by rfl) T.g_rank T.F_rank.kp T.b_rank (ra_cons re_var ra_nil) (consA_len (fun _ _ _ _ h => nilA_len h))) (re_call (ok_rank T 6) (hr.mono (by decide)) (by rfl) T.g_rank T.F_rank.kp T.b_rank (ra_cons re_var ra_nil) (consA_len (fun _ _ _ _ h => nilA_len h)))) (re_eq hr re_var re_var))))) (rss_one (rs_ret re_bl)) rss_nil)
    (rss_cons (rs_set sc_law.nd (re_lst (ra_cons re_var (ra_cons re_var (ra_cons (re_call (ok_law_thing T 5) (hr.mono (by decide)) (by rfl) T.g_law_thing T.F_law_thing.kp T.b_law_thing (ra_cons re_var (ra_cons re_int ra_nil)) (consA_len (consA_len (fun _ _ _ _ h => nilA_len h)))) (ra_cons (re_call (ok_law_thing T 5) (hr.mono (by decide)) (by rfl) T.g_law_thing T.F_law_thing.kp T.b_law_thing (ra_cons re_var (ra_cons re_int ra_nil)) (consA_len (consA_len (fun _ _ _ _ h => nilA_len h)))) ra_nil))))))
    (rss_cons (rs_set sc_law.nd (re_sort (ok_rank T 6) (hr.mono (by decide)) (by rfl) T.z_sorted (by rfl) T.g_rank T.F_rank.kp T.b_rank re_var))
    (rss_one (rs_ret (re_not (re_callB (cr_any rfl) any_ok (by rfl) T.z_any (by decide +kernel) (ra_cons (re_lc (t := (.one 6)) (own := [("k", 6)]) rfl sc_law.nd (ri_range1 (by rfl) T.z_range (ra_cons re_int ra_nil) (consA_len (fun _ _ _ _ h => nilA_len h))) (blkOk_by (N := N_law) (sc := defScope s_law) (by decide +kernel)) (fun _ _ _ _ _ => pg_name (i := 6) sc_law.nd rfl (Or.inl rfl)) (fun _ _ _ _ _ => rts_nil) (fun _ _ _ _ _ => (re_call (ok_law_ahead T 6) (hr.mono (by decide)) (by rfl) T.g_law_ahead T.F_law_ahead.kp T.b_law_ahead (ra_cons (re_ixA hr re_var (re_add re_var re_int)) (ra_cons (re_ixA hr re_var re_var) ra_nil)) (consA_len (consA_len (fun _ _ _ _ h => nilA_len h))))) (by decide)) ra_nil))))))))))))
end
noncomputable def txt_mk {K : PySem.W.Frag} {h : Heap} {mg : Str → Option Value} (X : K.In h) (G : h.Ns mainGlobals mg) {f0 f1 f2 f3 f4 f5 f6 f7 f8 : Addr}
    {od0 an0 : Option Addr} {sl0 : Array (Option Value)} {oc0 kV0 dc0 pm0 cd0 ct0 : Value}
    {od1 an1 : Option Addr} {sl1 : Array (Option Value)} {oc1 kV1 dc1 pm1 cd1 ct1 : Value}
    {od2 an2 : Option Addr} {sl2 : Array (Option Value)} {oc2 kV2 dc2 pm2 cd2 ct2 : Value}
    {od3 an3 : Option Addr} {sl3 : Array (Option Value)} {oc3 kV3 dc3 pm3 cd3 ct3 : Value}
    {od4 an4 : Option Addr} {sl4 : Array (Option Value)} {oc4 kV4 dc4 pm4 cd4 ct4 : Value}
    {od5 an5 : Option Addr} {sl5 : Array (Option Value)} {oc5 kV5 dc5 pm5 cd5 ct5 : Value}
    {od6 an6 : Option Addr} {sl6 : Array (Option Value)} {oc6 kV6 dc6 pm6 cd6 ct6 : Value}
    {od7 an7 : Option Addr} {sl7 : Array (Option Value)} {oc7 kV7 dc7 pm7 cd7 ct7 : Value}
    {od8 an8 : Option Addr} {sl8 : Array (Option Value)} {oc8 kV8 dc8 pm8 cd8 ct8 : Value}
    (n0 : PySem.W.nsIn K mainGlobals "rank" = some (some (.ref f0))) (l0 : K.lookup f0 = some ⟨oc0, od0, .func (PySem.W.fnOf "rank" "rank" (defArgs s_rank) (defBody s_rank) (defScope s_rank) .none kV0 dc0 pm0 an0 cd0 ct0), sl0⟩) (c0 : PySem.W.codeIn K cd0 "rank" = true) (k0 : PySem.W.keepIn K (.ref f0) = true)
    (n1 : PySem.W.nsIn K mainGlobals "_law_start" = some (some (.ref f1))) (l1 : K.lookup f1 = some ⟨oc1, od1, .func (PySem.W.fnOf "_law_start" "_law_start" (defArgs s_law_start) (defBody s_law_start) (defScope s_law_start) .none kV1 dc1 pm1 an1 cd1 ct1), sl1⟩) (c1 : PySem.W.codeIn K cd1 "_law_start" = true) (k1 : PySem.W.keepIn K (.ref f1) = true)
    (n2 : PySem.W.nsIn K mainGlobals "_law_draw" = some (some (.ref f2))) (l2 : K.lookup f2 = some ⟨oc2, od2, .func (PySem.W.fnOf "_law_draw" "_law_draw" (defArgs s_law_draw) (defBody s_law_draw) (defScope s_law_draw) .none kV2 dc2 pm2 an2 cd2 ct2), sl2⟩) (c2 : PySem.W.codeIn K cd2 "_law_draw" = true) (k2 : PySem.W.keepIn K (.ref f2) = true)
    (n3 : PySem.W.nsIn K mainGlobals "_law_pick" = some (some (.ref f3))) (l3 : K.lookup f3 = some ⟨oc3, od3, .func (PySem.W.fnOf "_law_pick" "_law_pick" (defArgs s_law_pick) (defBody s_law_pick) (defScope s_law_pick) .none kV3 dc3 pm3 an3 cd3 ct3), sl3⟩) (c3 : PySem.W.codeIn K cd3 "_law_pick" = true) (k3 : PySem.W.keepIn K (.ref f3) = true)
    (n4 : PySem.W.nsIn K mainGlobals "_law_is" = some (some (.ref f4))) (l4 : K.lookup f4 = some ⟨oc4, od4, .func (PySem.W.fnOf "_law_is" "_law_is" (defArgs s_law_is) (defBody s_law_is) (defScope s_law_is) .none kV4 dc4 pm4 an4 cd4 ct4), sl4⟩) (c4 : PySem.W.codeIn K cd4 "_law_is" = true) (k4 : PySem.W.keepIn K (.ref f4) = true)
    (n5 : PySem.W.nsIn K mainGlobals "_law_thing" = some (some (.ref f5))) (l5 : K.lookup f5 = some ⟨oc5, od5, .func (PySem.W.fnOf "_law_thing" "_law_thing" (defArgs s_law_thing) (defBody s_law_thing) (defScope s_law_thing) .none kV5 dc5 pm5 an5 cd5 ct5), sl5⟩) (c5 : PySem.W.codeIn K cd5 "_law_thing" = true) (k5 : PySem.W.keepIn K (.ref f5) = true)
    (n6 : PySem.W.nsIn K mainGlobals "_law_kind" = some (some (.ref f6))) (l6 : K.lookup f6 = some ⟨oc6, od6, .func (PySem.W.fnOf "_law_kind" "_law_kind" (defArgs s_law_kind) (defBody s_law_kind) (defScope s_law_kind) .none kV6 dc6 pm6 an6 cd6 ct6), sl6⟩) (c6 : PySem.W.codeIn K cd6 "_law_kind" = true) (k6 : PySem.W.keepIn K (.ref f6) = true)
    (n7 : PySem.W.nsIn K mainGlobals "_law_ahead" = some (some (.ref f7))) (l7 : K.lookup f7 = some ⟨oc7, od7, .func (PySem.W.fnOf "_law_ahead" "_law_ahead" (defArgs s_law_ahead) (defBody s_law_ahead) (defScope s_law_ahead) .none kV7 dc7 pm7 an7 cd7 ct7), sl7⟩) (c7 : PySem.W.codeIn K cd7 "_law_ahead" = true) (k7 : PySem.W.keepIn K (.ref f7) = true)
    (n8 : PySem.W.nsIn K mainGlobals "law" = some (some (.ref f8))) (l8 : K.lookup f8 = some ⟨oc8, od8, .func (PySem.W.fnOf "law" "law" (defArgs s_law) (defBody s_law) (defScope s_law) .none kV8 dc8 pm8 an8 cd8 ct8), sl8⟩) (c8 : PySem.W.codeIn K cd8 "law" = true) (k8 : PySem.W.keepIn K (.ref f8) = true)
    (z0 : PySem.W.nsIn K mainGlobals "abs" = some none)
    (z1 : PySem.W.nsIn K mainGlobals "any" = some none)
    (z2 : PySem.W.nsIn K mainGlobals "bool" = some none)
    (z3 : PySem.W.nsIn K mainGlobals "int" = some none)
    (z4 : PySem.W.nsIn K mainGlobals "isinstance" = some none)
    (z5 : PySem.W.nsIn K mainGlobals "len" = some none)
    (z6 : PySem.W.nsIn K mainGlobals "min" = some none)
    (z7 : PySem.W.nsIn K mainGlobals "range" = some none)
    (z8 : PySem.W.nsIn K mainGlobals "sorted" = some none)
    (z9 : PySem.W.nsIn K mainGlobals "str" = some none)
    (z10 : PySem.W.nsIn K mainGlobals "tuple" = some none) : Txt K mg where
  a_rank := f0
  fd_rank := _
  F_rank := fun_mk (st := s_rank) l0 c0 k0
  b_rank := (fun_mk (st := s_rank) l0 c0 k0).binds (ps := ["thing"]) fun _ _ _ _ _ _ us hl => match us, hl with | [_], _ => rfl
  g_rank := PySem.W.mg_of X G n0
  a_law_start := f1
  fd_law_start := _
  F_law_start := fun_mk (st := s_law_start) l1 c1 k1
  b_law_start := (fun_mk (st := s_law_start) l1 c1 k1).binds (ps := ["script"]) fun _ _ _ _ _ _ us hl => match us, hl with | [_], _ => rfl
  g_law_start := PySem.W.mg_of X G n1
  a_law_draw := f2
  fd_law_draw := _
  F_law_draw := fun_mk (st := s_law_draw) l2 c2 k2
  b_law_draw := (fun_mk (st := s_law_draw) l2 c2 k2).binds (ps := ["state", "bound"]) fun _ _ _ _ _ _ us hl => match us, hl with | [_, _], _ => rfl
  g_law_draw := PySem.W.mg_of X G n2
  a_law_pick := f3
  fd_law_pick := _
  F_law_pick := fun_mk (st := s_law_pick) l3 c3 k3
  b_law_pick := (fun_mk (st := s_law_pick) l3 c3 k3).binds (ps := ["state", "things"]) fun _ _ _ _ _ _ us hl => match us, hl with | [_, _], _ => rfl
  g_law_pick := PySem.W.mg_of X G n3
  a_law_is := f4
  fd_law_is := _
  F_law_is := fun_mk (st := s_law_is) l4 c4 k4
  b_law_is := (fun_mk (st := s_law_is) l4 c4 k4).binds (ps := ["actual", "due"]) fun _ _ _ _ _ _ us hl => match us, hl with | [_, _], _ => rfl
  g_law_is := PySem.W.mg_of X G n4
  a_law_thing := f5
  fd_law_thing := _
  F_law_thing := fun_mk (st := s_law_thing) l5 c5 k5
  b_law_thing := (fun_mk (st := s_law_thing) l5 c5 k5).binds (ps := ["state", "deep"]) fun _ _ _ _ _ _ us hl => match us, hl with | [_, _], _ => rfl
  g_law_thing := PySem.W.mg_of X G n5
  a_law_kind := f6
  fd_law_kind := _
  F_law_kind := fun_mk (st := s_law_kind) l6 c6 k6
  b_law_kind := (fun_mk (st := s_law_kind) l6 c6 k6).binds (ps := ["thing"]) fun _ _ _ _ _ _ us hl => match us, hl with | [_], _ => rfl
  g_law_kind := PySem.W.mg_of X G n6
  a_law_ahead := f7
  fd_law_ahead := _
  F_law_ahead := fun_mk (st := s_law_ahead) l7 c7 k7
  b_law_ahead := (fun_mk (st := s_law_ahead) l7 c7 k7).binds (ps := ["one", "two"]) fun _ _ _ _ _ _ us hl => match us, hl with | [_, _], _ => rfl
  g_law_ahead := PySem.W.mg_of X G n7
  a_law := f8
  fd_law := _
  F_law := fun_mk (st := s_law) l8 c8 k8
  b_law := (fun_mk (st := s_law) l8 c8 k8).binds (ps := ["script"]) fun _ _ _ _ _ _ us hl => match us, hl with | [_], _ => rfl
  g_law := PySem.W.mg_of X G n8
  z_abs := PySem.W.mg_none_of X G z0
  z_any := PySem.W.mg_none_of X G z1
  z_bool := PySem.W.mg_none_of X G z2
  z_int := PySem.W.mg_none_of X G z3
  z_isinstance := PySem.W.mg_none_of X G z4
  z_len := PySem.W.mg_none_of X G z5
  z_min := PySem.W.mg_none_of X G z6
  z_range := PySem.W.mg_none_of X G z7
  z_sorted := PySem.W.mg_none_of X G z8
  z_str := PySem.W.mg_none_of X G z9
  z_tuple := PySem.W.mg_none_of X G z10
theorem all_mk {l : PySem.W.OpenLaw} {w : World} {K : PySem.W.Frag} {h : Heap} {mg : Str → Option Value} {fa f0 f1 f2 f3 f4 f5 f6 f7 f8 : Addr} (X : K.In h) (G : h.Ns mainGlobals mg) (hfa : mg "law" = some (.ref fa))
    {od0 an0 : Option Addr} {sl0 : Array (Option Value)} {oc0 kV0 dc0 pm0 cd0 ct0 : Value}
    {od1 an1 : Option Addr} {sl1 : Array (Option Value)} {oc1 kV1 dc1 pm1 cd1 ct1 : Value}
    {od2 an2 : Option Addr} {sl2 : Array (Option Value)} {oc2 kV2 dc2 pm2 cd2 ct2 : Value}
    {od3 an3 : Option Addr} {sl3 : Array (Option Value)} {oc3 kV3 dc3 pm3 cd3 ct3 : Value}
    {od4 an4 : Option Addr} {sl4 : Array (Option Value)} {oc4 kV4 dc4 pm4 cd4 ct4 : Value}
    {od5 an5 : Option Addr} {sl5 : Array (Option Value)} {oc5 kV5 dc5 pm5 cd5 ct5 : Value}
    {od6 an6 : Option Addr} {sl6 : Array (Option Value)} {oc6 kV6 dc6 pm6 cd6 ct6 : Value}
    {od7 an7 : Option Addr} {sl7 : Array (Option Value)} {oc7 kV7 dc7 pm7 cd7 ct7 : Value}
    {od8 an8 : Option Addr} {sl8 : Array (Option Value)} {oc8 kV8 dc8 pm8 cd8 ct8 : Value}
    (n0 : PySem.W.nsIn K mainGlobals "rank" = some (some (.ref f0))) (l0 : K.lookup f0 = some ⟨oc0, od0, .func (PySem.W.fnOf "rank" "rank" (defArgs s_rank) (defBody s_rank) (defScope s_rank) .none kV0 dc0 pm0 an0 cd0 ct0), sl0⟩) (c0 : PySem.W.codeIn K cd0 "rank" = true) (k0 : PySem.W.keepIn K (.ref f0) = true)
    (n1 : PySem.W.nsIn K mainGlobals "_law_start" = some (some (.ref f1))) (l1 : K.lookup f1 = some ⟨oc1, od1, .func (PySem.W.fnOf "_law_start" "_law_start" (defArgs s_law_start) (defBody s_law_start) (defScope s_law_start) .none kV1 dc1 pm1 an1 cd1 ct1), sl1⟩) (c1 : PySem.W.codeIn K cd1 "_law_start" = true) (k1 : PySem.W.keepIn K (.ref f1) = true)
    (n2 : PySem.W.nsIn K mainGlobals "_law_draw" = some (some (.ref f2))) (l2 : K.lookup f2 = some ⟨oc2, od2, .func (PySem.W.fnOf "_law_draw" "_law_draw" (defArgs s_law_draw) (defBody s_law_draw) (defScope s_law_draw) .none kV2 dc2 pm2 an2 cd2 ct2), sl2⟩) (c2 : PySem.W.codeIn K cd2 "_law_draw" = true) (k2 : PySem.W.keepIn K (.ref f2) = true)
    (n3 : PySem.W.nsIn K mainGlobals "_law_pick" = some (some (.ref f3))) (l3 : K.lookup f3 = some ⟨oc3, od3, .func (PySem.W.fnOf "_law_pick" "_law_pick" (defArgs s_law_pick) (defBody s_law_pick) (defScope s_law_pick) .none kV3 dc3 pm3 an3 cd3 ct3), sl3⟩) (c3 : PySem.W.codeIn K cd3 "_law_pick" = true) (k3 : PySem.W.keepIn K (.ref f3) = true)
    (n4 : PySem.W.nsIn K mainGlobals "_law_is" = some (some (.ref f4))) (l4 : K.lookup f4 = some ⟨oc4, od4, .func (PySem.W.fnOf "_law_is" "_law_is" (defArgs s_law_is) (defBody s_law_is) (defScope s_law_is) .none kV4 dc4 pm4 an4 cd4 ct4), sl4⟩) (c4 : PySem.W.codeIn K cd4 "_law_is" = true) (k4 : PySem.W.keepIn K (.ref f4) = true)
    (n5 : PySem.W.nsIn K mainGlobals "_law_thing" = some (some (.ref f5))) (l5 : K.lookup f5 = some ⟨oc5, od5, .func (PySem.W.fnOf "_law_thing" "_law_thing" (defArgs s_law_thing) (defBody s_law_thing) (defScope s_law_thing) .none kV5 dc5 pm5 an5 cd5 ct5), sl5⟩) (c5 : PySem.W.codeIn K cd5 "_law_thing" = true) (k5 : PySem.W.keepIn K (.ref f5) = true)
    (n6 : PySem.W.nsIn K mainGlobals "_law_kind" = some (some (.ref f6))) (l6 : K.lookup f6 = some ⟨oc6, od6, .func (PySem.W.fnOf "_law_kind" "_law_kind" (defArgs s_law_kind) (defBody s_law_kind) (defScope s_law_kind) .none kV6 dc6 pm6 an6 cd6 ct6), sl6⟩) (c6 : PySem.W.codeIn K cd6 "_law_kind" = true) (k6 : PySem.W.keepIn K (.ref f6) = true)
    (n7 : PySem.W.nsIn K mainGlobals "_law_ahead" = some (some (.ref f7))) (l7 : K.lookup f7 = some ⟨oc7, od7, .func (PySem.W.fnOf "_law_ahead" "_law_ahead" (defArgs s_law_ahead) (defBody s_law_ahead) (defScope s_law_ahead) .none kV7 dc7 pm7 an7 cd7 ct7), sl7⟩) (c7 : PySem.W.codeIn K cd7 "_law_ahead" = true) (k7 : PySem.W.keepIn K (.ref f7) = true)
    (n8 : PySem.W.nsIn K mainGlobals "law" = some (some (.ref f8))) (l8 : K.lookup f8 = some ⟨oc8, od8, .func (PySem.W.fnOf "law" "law" (defArgs s_law) (defBody s_law) (defScope s_law) .none kV8 dc8 pm8 an8 cd8 ct8), sl8⟩) (c8 : PySem.W.codeIn K cd8 "law" = true) (k8 : PySem.W.keepIn K (.ref f8) = true)
    (z0 : PySem.W.nsIn K mainGlobals "abs" = some none)
    (z1 : PySem.W.nsIn K mainGlobals "any" = some none)
    (z2 : PySem.W.nsIn K mainGlobals "bool" = some none)
    (z3 : PySem.W.nsIn K mainGlobals "int" = some none)
    (z4 : PySem.W.nsIn K mainGlobals "isinstance" = some none)
    (z5 : PySem.W.nsIn K mainGlobals "len" = some none)
    (z6 : PySem.W.nsIn K mainGlobals "min" = some none)
    (z7 : PySem.W.nsIn K mainGlobals "range" = some none)
    (z8 : PySem.W.nsIn K mainGlobals "sorted" = some none)
    (z9 : PySem.W.nsIn K mainGlobals "str" = some none)
    (z10 : PySem.W.nsIn K mainGlobals "tuple" = some none) :
    ∃ fd : FuncData, (∀ (s : Shared) (v : Value), BindsTo s fd ⟨[v], []⟩ [("script", v)]) ∧ ∀ base : Heap, K.In base → base.Ns mainGlobals mg → FnOk l.prog w K mg base CX0 8 fa fd ["script"] (spF K w 1 F_law) := by
  have e := hfa.symm.trans (PySem.W.mg_of X G n8)
  cases e
  exact ⟨PySem.W.fnOf "law" "law" (defArgs s_law) (defBody s_law) (defScope s_law) .none kV8 dc8 pm8 an8 cd8 ct8, fun s v => .of_eq rfl, fun base _ _ => ok_law (txt_mk X G n0 l0 c0 k0 n1 l1 c1 k1 n2 l2 c2 k2 n3 l3 c3 k3 n4 l4 c4 k4 n5 l5 c5 k5 n6 l6 c6 k6 n7 l7 c7 k7 n8 l8 c8 k8 z0 z1 z2 z3 z4 z5 z6 z7 z8 z9 z10)⟩
end K28
/-! Law k28 in plain Lean. -/
namespace DL
open PySem PySem.Spec PyProof.Rows L2
/-- a comprehension whose item makes draws -/
theorem lc_dr {gd : Mem → Prop} {i j : Nat} {el : EM} {e0 : Sl} {P : Dt → Prop} (hg : ∀ M, gd M) : ∀ (ds acc : List Dt) (M : Mem), IsSt i M → (∀ d ∈ ds, ∀ M1, Dr i M M1 → ∃ y M2, P y ∧ Dr i M1 M2 ∧ el (e0.set j (some d)) M1 = some (y, M2)) →
    acc.length + ds.length ≤ sizeLine → ∃ ys M', ys.length = ds.length ∧ (∀ y ∈ ys, P y) ∧ Dr i M M' ∧ lcL gd (.one j) yesT el e0 ds acc M = some (acc ++ ys, M')
  | [], acc, M, hs, _, _ => ⟨[], M, rfl, by simp, Dr.refl hs, by unfold lcL; rw [if_pos (hg M), List.append_nil]⟩
  | d :: ds, acc, M, hs, h, hl => by
    rw [List.length_cons] at hl
    obtain ⟨y, M2, p, r, e⟩ := h d List.mem_cons_self M (Dr.refl hs)
    obtain ⟨ys, M', h1, h2, h3, h4⟩ := lc_dr (j := j) (el := el) (e0 := e0) (P := P) hg ds (acc ++ [y]) M2 r.st (fun x hx M1 r1 => h x (List.mem_cons_of_mem _ hx) M1 (r.trans r1)) (by rw [List.length_append, List.length_singleton]; omega)
    refine ⟨y :: ys, M', by rw [List.length_cons, List.length_cons, h1], fun z hz => ?_, r.trans h3, ?_⟩
    · rcases List.mem_cons.mp hz with rfl | hz
      · exact p
      · exact h2 z hz
    · unfold lcL
      rw [if_pos (hg M)]
      simp only [Tgt.m, yesT, thn1_some, if_true, e]
      rw [if_pos (by omega), h4]
      simp
theorem consA_ok {a : EM} {r : AM} {e : Sl} {M M1 M2 : Mem} {x : Dt} {xs : List Dt} (h1 : a e M = some (x, M1)) (h2 : r e M1 = some (xs, M2)) : consA a r e M = some (x :: xs, M2) := by
  simp only [consA, h1, h2, thn1_some]
theorem tupE_ok {a : AM} {e : Sl} {M M1 : Mem} {ds : List Dt} (h : a e M = some (ds, M1)) (hl : ds.length ≤ 1000) : tupE a e M = some (.tup ds, M1) := by
  simp only [tupE, h, thn1_some]
  rw [if_pos (by rw [sizeLine_eq]; omega)]
theorem lstE_ok {a : AM} {e : Sl} {M M1 : Mem} {ds : List Dt} (h : a e M = some (ds, M1)) (hl : ds.length ≤ 1000) : lstE a e M = some (.lst ds, M1) := by
  simp only [lstE, h, thn1_some]
  rw [if_pos (by rw [sizeLine_eq]; omega)]
theorem rng_eq {m : AM} {e : Sl} {M M1 : Mem} {ds : List Dt} {src : Src} (h : m e M = some (ds, M1)) (h2 : rngD ds = some src) : rngI m e M = some (src, M1) := by
  unfold rngI
  rw [h]
  show pur (rngD ds) M1 = _
  rw [h2]
  rfl
theorem pick_keys {i : Nat} {M : Mem} {ks : List NestedKey} (h : IsSt i M) (h0 : ks ≠ []) (hl : ks.length < 1000) : ∃ k M', k ∈ ks ∧ Dr i M M' ∧ F_pick [.ref i, .lst (ks.map toD)] M = some (toD k, M') := by
  obtain ⟨x, M', h1, h2, h3⟩ := pick_dr (d := .lst (ks.map toD)) (xs := ks.map toD) h (fun _ _ => rfl) rfl (fun z e => by cases e) (fun _ _ => rfl) (by simpa using h0) (by rw [List.length_map]; omega) (by rw [← toDs_map]; exact cls_toDs _ _)
  obtain ⟨k, hk, rfl⟩ := List.mem_map.mp h1
  exact ⟨k, M', hk, h2, h3⟩
mutual
/-- tuples of at most ten items -/
def szK : NestedKey → Bool
  | .none => true
  | .num _ => true
  | .text _ => true
  | .tup ks => decide (ks.length ≤ 10) && szKs ks
def szKs : List NestedKey → Bool
  | [] => true
  | k :: ks => szK k && szKs ks
end
theorem szKs_iff : ∀ {ks : List NestedKey}, szKs ks = true ↔ ∀ k ∈ ks, szK k = true
  | [] => by simp [szKs]
  | k :: ks => by rw [szKs, Bool.and_eq_true, szKs_iff]; simp
theorem txKs_iff : ∀ {ks : List NestedKey}, txKs ks = true ↔ ∀ k ∈ ks, txK k = true
  | [] => by simp [txKs]
  | k :: ks => by rw [txKs, Bool.and_eq_true, txKs_iff]; simp
theorem depthAll_le {n : Nat} : ∀ {ks : List NestedKey}, NestedKey.depthAll ks ≤ n ↔ ∀ k ∈ ks, k.depth ≤ n
  | [] => by simp [NestedKey.depthAll]
  | k :: ks => by rw [NestedKey.depthAll, Nat.max_le, depthAll_le]; simp
/-- a thing of the script -/
structure Th (n : Nat) (k : NestedKey) : Prop where
  dp : k.depth ≤ n
  tx : txK k = true
  sz : szK k = true
theorem Th.tup {n : Nat} {ks : List NestedKey} (hl : ks.length ≤ 10) (h : ∀ k ∈ ks, Th n k) : Th (n + 1) (.tup ks) := by
  refine ⟨?_, ?_, ?_⟩
  · rw [NestedKey.depth]
    exact Nat.succ_le_succ (depthAll_le.mpr fun k hk => (h k hk).dp)
  · rw [txK]
    exact txKs_iff.mpr fun k hk => (h k hk).tx
  · rw [szK, Bool.and_eq_true]
    exact ⟨decide_eq_true hl, szKs_iff.mpr fun k hk => (h k hk).sz⟩
theorem Th.parts {n : Nat} {ks : List NestedKey} (h : Th n (.tup ks)) : ks.length ≤ 10 ∧ 1 ≤ n ∧ ∀ k ∈ ks, Th (n - 1) k := by
  obtain ⟨h1, h2, h3⟩ := h
  rw [NestedKey.depth] at h1
  rw [txK] at h2
  rw [szK, Bool.and_eq_true] at h3
  exact ⟨of_decide_eq_true h3.1, by omega, fun k hk => ⟨depthAll_le.mp (show NestedKey.depthAll ks ≤ n - 1 by omega) k hk, txKs_iff.mp h2 k hk, szKs_iff.mp h3.2 k hk⟩⟩
theorem Th.mono {n m : Nat} {k : NestedKey} (h : Th n k) (hm : n ≤ m) : Th m k := ⟨Nat.le_trans h.dp hm, h.tx, h.sz⟩
/-- the type's name -/
def tyN : NestedKey → String
  | .none => "NoneType"
  | .num _ => "int"
  | .text _ => "str"
  | .tup _ => "tuple"
def isTup : NestedKey → Bool
  | .tup _ => true
  | _ => false
def isTxt : NestedKey → Bool
  | .text _ => true
  | _ => false
theorem isi_tup (k : NestedKey) (M : Mem) : isiF [toD k, .ty "tuple"] M = some (.bl (isTup k), M) := by
  cases k <;> simp [isiF, toD, tyD, isTup]
theorem isi_str (k : NestedKey) (M : Mem) : isiF [toD k, .ty "str"] M = some (.bl (isTxt k), M) := by
  cases k <;> simp [isiF, toD, tyD, isTxt]
def isNo : NestedKey → Bool
  | .none => true
  | _ => false
theorem isN_toD (k : NestedKey) (M : Mem) : pure2 isND (toD k) .non M = some (.bl (isNo k), M) := by
  cases k <;> rfl
end DL
namespace K28
open PySem PySem.Spec PyProof.Rows L2 DL
theorem eq_draw : F_law_draw = F_draw := rfl
theorem eq_pick : F_law_pick = F_pick := rfl
theorem eq_start : F_law_start = F_start := rfl

/-! ### a thing -/
theorem thing_ok {i : Nat} : ∀ (fuel deep : Nat) (M : Mem), deep < fuel → deep ≤ 3 → IsSt i M → ∃ k M', (Th deep k ∧ ∀ ks, k = .tup ks → ks.length ≤ 3) ∧ Dr i M M' ∧ F_law_thing fuel [.ref i, .int (deep : Int)] M = some (toD k, M')
  | 0, _, _, h, _, _ => absurd h (Nat.not_lt_zero _)
  | fuel + 1, deep, M, hf, hd, hs => by
    have main : ∃ k M' e, (Th deep k ∧ ∀ ks, k = .tup ks → ks.length ≤ 3) ∧ Dr i M M' ∧ m_law_thing (F_law_thing fuel) ([Dt.ref i, .int (deep : Int)].map some ++ List.replicate (4 - [Dt.ref i, .int (deep : Int)].length) none) M = some (.rt (toD k), e, M') := by
      have ee : ([Dt.ref i, .int (deep : Int)].map some ++ List.replicate (4 - [Dt.ref i, .int (deep : Int)].length) none : Sl) = [some (.ref i), some (.int (deep : Int)), none, none] := rfl
      rw [ee]
      obtain ⟨b, hb, hb1, hb2, hb3⟩ : ∃ b : Int, (ifE (blT (opE (pure2 gtI) (varE 1) (cE (.int 0)))) (cE (.int 5)) (cE (.int 3))) [some (.ref i), some (.int (deep : Int)), none, none] M = some (.int b, M) ∧ 0 < b ∧ b < 1073741824 ∧ (deep = 0 → b = 3) := by
        refine ⟨if deep = 0 then 3 else 5, ?_, ?_, ?_, fun h => if_pos h⟩
        · simp only [ifE, blT, opE, varE, cE, List.getElem?_cons_succ, List.getElem?_cons_zero, thn1_some, pure2, gtI, cmpD, pur_some]
          by_cases h0 : deep = 0
          · subst h0; rfl
          · rw [if_neg h0, if_pos (by rw [decide_eq_true_eq]; omega)]
        · split <;> decide
        · split <;> decide
      obtain ⟨r, M1, hr0, hr1, d1, e1⟩ := draw_dr hs hb1 hb2
      unfold m_law_thing
      rw [seq_nx (e1 := [some (.ref i), some (.int (deep : Int)), some (.int r), none]) (M1 := M1) (by
        simp only [setS, callE, consA, nilA, hb, varE, List.getElem?_cons_zero, thn1_some, eq_draw, e1]
        rfl)]
      have t0 : (blT (opE eqD (varE 2) (cE (.int 0)))) [some (.ref i), some (.int (deep : Int)), some (.int r), none] M1 = some (decide (r = 0), M1) := by
        simp only [blT, opE, varE, cE, List.getElem?_cons_succ, List.getElem?_cons_zero, thn1_some, eqD, eqO_int, Option.map_some, pur_some]
      have t3 : (blT (opE ltD (varE 2) (cE (.int 3)))) [some (.ref i), some (.int (deep : Int)), some (.int r), none] M1 = some (decide (r < 3), M1) := by
        simp only [blT, opE, varE, cE, List.getElem?_cons_succ, List.getElem?_cons_zero, thn1_some, ltD, ltO_int, Option.map_some, pur_some]
      by_cases h0 : r = 0
      · obtain ⟨k, M2, hk, d2, e2⟩ := pick_keys (ks := [.none, .num 0, .num 1, .num (-5), .num (10 ^ 20)]) d1.st (by simp) (by simp)
        refine ⟨k, M2, [some (.ref i), some (.int (deep : Int)), some (.int r), none], ?_, d1.trans d2, ?_⟩
        · simp only [List.mem_cons, List.not_mem_nil, or_false] at hk
          rcases hk with rfl | rfl | rfl | rfl | rfl <;> exact ⟨⟨Nat.zero_le _, rfl, rfl⟩, fun _ e => by cases e⟩
        · rw [seq_rt]
          rw [if_t (by rw [t0, decide_eq_true h0])]
          have p20 : powD (.int 10) (.int 20) = some (.int (10 ^ 20)) := by
            simp only [powD, DL.intD]
            rw [if_pos ⟨by decide, by decide, by decide⟩]
            rfl
          have hlst : (lstE (consA (cE .non) (consA (cE (.int 0)) (consA (cE (.int 1)) (consA (unE negD (cE (.int 5))) (consA (opE (pure2 powD) (cE (.int 10)) (cE (.int 20))) nilA)))))) [some (.ref i), some (.int (deep : Int)), some (.int r), none] M1 = some (.lst ([NestedKey.none, .num 0, .num 1, .num (-5), .num (10 ^ 20)].map toD), M1) := by
            simp only [lstE, consA, nilA, cE, unE, negD, opE, pure2, p20, pur_some, thn1_some]
            rw [if_pos (by rw [sizeLine_eq]; simp)]
            rfl
          simp only [rtS, callE, consA, nilA, varE, List.getElem?_cons_zero, hlst, thn1_some, eq_pick, e2]
      · by_cases h3 : r < 3
        · obtain ⟨k, M2, hk, d2, e2⟩ := pick_keys (ks := [.text "", .text "a", .text "ab", .text "b", .num 7, .num 8, .none]) d1.st (by simp) (by simp)
          refine ⟨k, M2, [some (.ref i), some (.int (deep : Int)), some (.int r), none], ?_, d1.trans d2, ?_⟩
          · simp only [List.mem_cons, List.not_mem_nil, or_false] at hk
            rcases hk with rfl | rfl | rfl | rfl | rfl | rfl | rfl <;> exact ⟨⟨Nat.zero_le _, by first | rfl | decide +kernel, rfl⟩, fun _ e => by cases e⟩
          · rw [seq_nx (e1 := [some (.ref i), some (.int (deep : Int)), some (.int r), none]) (M1 := M1) (by rw [if_f (by rw [t0, decide_eq_false h0])]; rfl)]
            rw [seq_rt]
            rw [if_t (by rw [t3, decide_eq_true h3])]
            have hlst : (lstE (consA (cE (.str "")) (consA (cE (.str "a")) (consA (cE (.str "ab")) (consA (cE (.str "b")) (consA (cE (.int 7)) (consA (cE (.int 8)) (consA (cE .non) nilA)))))))) [some (.ref i), some (.int (deep : Int)), some (.int r), none] M1 = some (.lst ([NestedKey.text "", .text "a", .text "ab", .text "b", .num 7, .num 8, .none].map toD), M1) := by
              simp only [lstE, consA, nilA, cE, thn1_some]
              rw [if_pos (by rw [sizeLine_eq]; simp)]
              rfl
            simp only [rtS, callE, consA, nilA, varE, List.getElem?_cons_zero, hlst, thn1_some, eq_pick, e2]
        · have hdp : deep ≠ 0 := fun z => by have := hb3 z; omega
          obtain ⟨n, M2, hn0, hn1, d2, e2⟩ := draw_dr d1.st (b := 4) (by decide) (by decide)
          obtain ⟨ys, M3, hy1, hy2, d3, e3⟩ := lc_dr (gd := fun _ => True) (i := i) (j := 3) (el := (callE (F_law_thing fuel) (consA (varE 0) (consA (opE (pure2 subD) (varE 1) (cE (.int 1))) nilA)))) (e0 := [some (.ref i), some (.int (deep : Int)), some (.int r), none]) (P := fun y => ∃ k, y = toD k ∧ Th (deep - 1) k) (fun _ => True.intro)
            ((List.range n.toNat).map fun k => Dt.int (0 + (k : Nat))) [] M2 d2.st (fun d _ M4 r4 => by
              obtain ⟨k, M5, hk, d5, e5⟩ := thing_ok fuel (deep - 1) M4 (by omega) (by omega) r4.st
              refine ⟨toD k, M5, ⟨k, rfl, hk.1⟩, d5, ?_⟩
              have es : ((deep - 1 : Nat) : Int) = (deep : Int) - 1 := by omega
              rw [es] at e5
              simp only [callE, consA, nilA, varE, opE, cE, pure2, subD, pur_some, List.set_cons_succ, List.set_cons_zero, List.getElem?_cons_zero, List.getElem?_cons_succ, thn1_some, e5]) (by rw [List.length_map, List.length_range, sizeLine_eq]; simp; omega)
          obtain ⟨ks, rfl⟩ : ∃ ks : List NestedKey, ys = ks.map toD := by
            clear e3 hy1
            induction ys with
            | nil => exact ⟨[], rfl⟩
            | cons y ys ih =>
              obtain ⟨k, hk, _⟩ := hy2 y List.mem_cons_self
              obtain ⟨ks, hks⟩ := ih fun z hz => hy2 z (List.mem_cons_of_mem _ hz)
              exact ⟨k :: ks, by rw [hk, hks]; rfl⟩
          have hks : ∀ k ∈ ks, Th (deep - 1) k := fun k hk => by
            obtain ⟨k', e', h'⟩ := hy2 (toD k) (List.mem_map_of_mem hk)
            rw [toD_inj e']
            exact h'
          refine ⟨.tup ks, M3, [some (.ref i), some (.int (deep : Int)), some (.int r), none], ?_, (d1.trans d2).trans d3, ?_⟩
          · have : deep - 1 + 1 = deep := by omega
            rw [← this]
            rw [List.length_map, List.length_map, List.length_range] at hy1
            refine ⟨Th.tup (by omega) hks, fun ks' e => ?_⟩
            cases e
            omega
          · rw [seq_nx (e1 := [some (.ref i), some (.int (deep : Int)), some (.int r), none]) (M1 := M1) (by rw [if_f (by rw [t0, decide_eq_false h0])]; rfl)]
            rw [seq_nx (e1 := [some (.ref i), some (.int (deep : Int)), some (.int r), none]) (M1 := M1) (by rw [if_f (by rw [t3, decide_eq_false h3])]; rfl)]
            have hr : (rngI (consA (callE F_law_draw (consA (varE 0) (consA (cE (.int 4)) nilA))) nilA)) [some (.ref i), some (.int (deep : Int)), some (.int r), none] M1 = some (⟨(List.range n.toNat).map fun k => Dt.int (0 + (k : Nat)), fun _ => True⟩, M2) := by
              simp only [rngI, consA, nilA, callE, varE, cE, List.getElem?_cons_zero, thn1_some, eq_draw, e2, rngD]
              rw [if_pos ⟨by omega, by omega⟩]
              rfl
            simp only [rtS, callE, consA, nilA, lcE, hr, thn1_some]
            rw [show wipeS [some (Dt.ref i), some (.int (deep : Int)), some (.int r), none] [3] = [some (.ref i), some (.int (deep : Int)), some (.int r), none] from rfl, e3]
            simp only [thn1_some, tupleF, seqAt, Option.map_some, pur_some, List.nil_append, toD_tup]
    obtain ⟨k, M', e, h1, h2, h3⟩ := main
    exact ⟨k, M', h1, h2, cutF_dr h2 (body_rt h3) (cl_toD _ _)⟩

/-! ### rank -/
mutual
def rkN : NestedKey → NestedKey
  | .none => .tup [.num 0]
  | .num i => .tup [.num 1, .num i]
  | .text x => .tup [.num 2, .text x]
  | .tup ks => .tup (.num 3 :: rkNs ks)
def rkNs : List NestedKey → List NestedKey
  | [] => []
  | k :: ks => rkN k :: rkNs ks
end
theorem rkNs_map : ∀ ks : List NestedKey, rkNs ks = ks.map rkN
  | [] => rfl
  | k :: ks => by rw [rkNs, rkNs_map ks]; rfl
theorem rank_ok : ∀ (fuel : Nat) (k : NestedKey) (M : Mem), k.depth < fuel → szK k = true → F_rank fuel [toD k] M = some (toD (rkN k), M)
  | 0, _, _, h, _ => absurd h (Nat.not_lt_zero _)
  | fuel + 1, k, M, hf, hz => by
    refine cutF_id ?_ (cl_toD _ _)
    have ee : ([toD k].map some ++ List.replicate (2 - [toD k].length) none : Sl) = [some (toD k), none] := rfl
    refine body_rt (e := [some (toD k), none]) ?_
    rw [ee]
    unfold m_rank
    have one : (1 : Nat) ≤ sizeLine := by rw [sizeLine_eq]; decide
    have two : (2 : Nat) ≤ sizeLine := by rw [sizeLine_eq]; decide
    have t0 : (blT (opE (pure2 isND) (varE 0) (cE .non))) [some (toD k), none] M = some (isNo k, M) := by
      simp only [blT, opE, varE, cE, List.getElem?_cons_zero, thn1_some, isN_toD]
    have t1 : (truT (callE isiF (consA (varE 0) (consA (cE (.ty "tuple")) nilA)))) [some (toD k), none] M = some (isTup k, M) := by
      simp only [truT, callE, consA, nilA, varE, cE, List.getElem?_cons_zero, thn1_some, isi_tup, truthD, pur_some]
    have t2 : (truT (callE isiF (consA (varE 0) (consA (cE (.ty "str")) nilA)))) [some (toD k), none] M = some (isTxt k, M) := by
      simp only [truT, callE, consA, nilA, varE, cE, List.getElem?_cons_zero, thn1_some, isi_str, truthD, pur_some]
    cases k with
    | none =>
      rw [seq_rt]
      rw [if_t t0]
      simp only [rtS, tupE, consA, nilA, cE, thn1_some]
      rw [if_pos (by exact one)]
      rfl
    | num n =>
      rw [seq_nx (e1 := [some (toD (.num n)), none]) (M1 := M) (by rw [if_f t0]; rfl)]
      rw [seq_nx (e1 := [some (toD (.num n)), none]) (M1 := M) (by rw [if_f t1]; rfl)]
      rw [seq_nx (e1 := [some (toD (.num n)), none]) (M1 := M) (by rw [if_f t2]; rfl)]
      simp only [rtS, tupE, consA, nilA, cE, varE, List.getElem?_cons_zero, thn1_some]
      rw [if_pos (by exact two)]
      rfl
    | text n =>
      rw [seq_nx (e1 := [some (toD (.text n)), none]) (M1 := M) (by rw [if_f t0]; rfl)]
      rw [seq_nx (e1 := [some (toD (.text n)), none]) (M1 := M) (by rw [if_f t1]; rfl)]
      rw [seq_rt]
      rw [if_t t2]
      simp only [rtS, tupE, consA, nilA, cE, varE, List.getElem?_cons_zero, thn1_some]
      rw [if_pos (by exact two)]
      rfl
    | tup ks =>
      rw [szK, Bool.and_eq_true] at hz
      rw [NestedKey.depth] at hf
      have hl : ks.length ≤ 10 := of_decide_eq_true hz.1
      have hlc := lc_pure (gd := fun _ => True) (i := 1) (el := (callE (F_rank fuel) (consA (varE 1) nilA))) (e0 := [some (toD (.tup ks)), none]) (g := fun d => match toOrd d with | some k => toD (rkN k) | none => d) (M := M) True.intro (ks.map toD) [] (fun d hd => by
        obtain ⟨x, hx, rfl⟩ := List.mem_map.mp hd
        have := rank_ok fuel x M (by have := depthAll_le.mp (Nat.le_refl (NestedKey.depthAll ks)) x hx; omega) (szKs_iff.mp hz.2 x hx)
        simp only [callE, consA, nilA, varE, List.set_cons_succ, List.set_cons_zero, List.getElem?_cons_zero, List.getElem?_cons_succ, thn1_some, this, toOrd_toD]) (by rw [List.length_map, sizeLine_eq]; simp; omega)
      have hm : (ks.map toD).map (fun d => match toOrd d with | some k => toD (rkN k) | none => d) = (ks.map rkN).map toD := by
        rw [List.map_map, List.map_map]
        refine List.map_congr_left fun x _ => ?_
        simp only [Function.comp_def, toOrd_toD]
      rw [hm, List.nil_append] at hlc
      rw [seq_nx (e1 := [some (toD (.tup ks)), none]) (M1 := M) (by rw [if_f t0]; rfl)]
      rw [seq_rt]
      rw [if_t t1]
      have hi : (seqI (varE 0)) [some (toD (.tup ks)), none] M = some (⟨ks.map toD, fun _ => True⟩, M) := by
        rw [toD_tup]
        simp only [seqI, varE, List.getElem?_cons_zero, thn1_some, itemsOf, pur_some]
      simp only [rtS, tupE, consA, nilA, cE, starA, lcE, hi, thn1_some]
      rw [show wipeS [some (toD (.tup ks)), none] [1] = [some (toD (.tup ks)), none] from rfl, hlc]
      simp only [thn1_some, seqAt, List.append_nil]
      rw [if_pos (by rw [List.length_cons, List.length_map, List.length_map, sizeLine_eq]; omega)]
      simp only [thn1_some]
      rw [rkN, rkNs_map]
      simp only [toD_tup, List.map_cons]
      rfl

/-! ### what comes ahead -/
def kdN : NestedKey → Nat
  | .none => 0
  | .num _ => 1
  | .text _ => 2
  | .tup _ => 3
mutual
def ahN : NestedKey → NestedKey → Bool
  | .num a, .num b => decide (a < b)
  | .text a, .text b => decide (a.cps.toList < b.cps.toList)
  | .tup a, .tup b => ahNs a b
  | .none, b => decide (0 < kdN b)
  | .num _, .none => false
  | .num _, .text _ => true
  | .num _, .tup _ => true
  | .text _, .none => false
  | .text _, .num _ => false
  | .text _, .tup _ => true
  | .tup _, .none => false
  | .tup _, .num _ => false
  | .tup _, .text _ => false
def ahNs : List NestedKey → List NestedKey → Bool
  | [], [] => false
  | [], _ :: _ => true
  | _ :: _, [] => false
  | x :: xs, y :: ys => if x = y then ahNs xs ys else ahN x y
end
mutual
theorem rkN_inj : ∀ a b : NestedKey, rkN a = rkN b → a = b
  | .none, b, h => by cases b <;> simp [rkN] at h; rfl
  | .num i, b, h => by cases b <;> simp [rkN] at h; rw [h]
  | .text i, b, h => by cases b <;> simp [rkN] at h; rw [h]
  | .tup ks, b, h => by
    cases b with
    | tup js => simp only [rkN, NestedKey.tup.injEq, List.cons.injEq, true_and] at h; rw [rkNs_inj ks js h]
    | _ => simp [rkN] at h
theorem rkNs_inj : ∀ a b : List NestedKey, rkNs a = rkNs b → a = b
  | [], [], _ => rfl
  | [], _ :: _, h => by simp [rkNs] at h
  | _ :: _, [], h => by simp [rkNs] at h
  | x :: xs, y :: ys, h => by
    simp only [rkNs, List.cons.injEq] at h
    rw [rkN_inj x y h.1, rkNs_inj xs ys h.2]
end
mutual
theorem lt_rk : ∀ a b : NestedKey, ltK (rkN a) (rkN b) = some (ahN a b)
  | .none, b => by cases b <;> simp [rkN, ltK, ltKs, ahN, kdN]
  | .num i, b => by
    cases b <;> simp [rkN, ltK, ltKs, ahN]
    rename_i j
    intro h; omega
  | .text i, b => by
    cases b <;> simp [rkN, ltK, ltKs, ahN]
    rename_i j
    intro h; subst h
    exact List.lt_irrefl _
  | .tup ks, b => by
    cases b with
    | tup js => simp only [rkN, ltK, ltKs, ahN, if_true]; exact lts_rk ks js
    | _ => simp [rkN, ltK, ltKs, ahN]
theorem lts_rk : ∀ a b : List NestedKey, ltKs (rkNs a) (rkNs b) = some (ahNs a b)
  | [], [] => rfl
  | [], _ :: _ => rfl
  | _ :: _, [] => rfl
  | x :: xs, y :: ys => by
    simp only [rkNs, ltKs, ahNs]
    by_cases h : x = y
    · rw [if_pos h, if_pos (by rw [h])]
      exact lts_rk xs ys
    · rw [if_neg h, if_neg fun z => h (rkN_inj x y z)]
      exact lt_rk x y
end
theorem kind_ok (k : NestedKey) (M : Mem) : F_law_kind [toD k] M = some (.int (kdN k), M) := by
  refine cutF_id ?_ (by simp [DL.Cl])
  have ee : ([toD k].map some ++ List.replicate (1 - [toD k].length) none : Sl) = [some (toD k)] := rfl
  refine body_rt (e := [some (toD k)]) ?_
  rw [ee]
  unfold m_law_kind
  have t0 : (blT (opE (pure2 isND) (varE 0) (cE .non))) [some (toD k)] M = some (isNo k, M) := by
    simp only [blT, opE, varE, cE, List.getElem?_cons_zero, thn1_some, isN_toD]
  have t1 : (truT (callE isiF (consA (varE 0) (consA (cE (.ty "tuple")) nilA)))) [some (toD k)] M = some (isTup k, M) := by
    simp only [truT, callE, consA, nilA, varE, cE, List.getElem?_cons_zero, thn1_some, isi_tup, truthD, pur_some]
  have t2 : (truT (callE isiF (consA (varE 0) (consA (cE (.ty "str")) nilA)))) [some (toD k)] M = some (isTxt k, M) := by
    simp only [truT, callE, consA, nilA, varE, cE, List.getElem?_cons_zero, thn1_some, isi_str, truthD, pur_some]
  simp only [seqS, ifS, rtS, nxS, ifE, cE, t0, t1, t2, thn1_some]
  cases k <;> rfl
theorem kd_lt {a b : NestedKey} (h : kdN a ≠ kdN b) : ahN a b = decide ((kdN a : Int) < (kdN b : Int)) := by
  cases a <;> cases b <;> simp [kdN, ahN] at h ⊢
theorem ix_tup {ks : List NestedKey} {j : Nat} {k : NestedKey} (h : ks[j]? = some k) (M : Mem) : ixA (.tup (ks.map toD)) (.int (j : Int)) M = some (toD k, M) := by
  unfold ixA
  simp only [dictAt]
  unfold ixD
  simp only [seqAt, Option.bind_some, at_nat (xs := ks.map toD) (p := (j : Int)) (by omega) (show (ks.map toD)[((j : Int)).toNat]? = some (toD k) by rw [Int.toNat_natCast, List.getElem?_map, h]; rfl), pur_some]
/-- the loop over the places -/
theorem ahead_loop {fuel n : Nat} {M : Mem} (ih : ∀ a b : NestedKey, Th n a → Th n b → F_law_ahead fuel [toD a, toD b] M = some (.bl (ahN a b), M)) (hn : n ≤ 16) {as bs : List NestedKey} :
    ∀ (m j : Nat) (xs ys : List NestedKey) (v : Option Dt), m = min xs.length ys.length → as.drop j = xs → bs.drop j = ys → (∀ k ∈ xs, Th n k) → (∀ k ∈ ys, Th n k) →
      (∃ v', loopS (fun _ => True) (nameG 2) (ifS (blT (opE neD (opE ixA (varE 0) (varE 2)) (opE ixA (varE 1) (varE 2)))) (rtS (callE (F_law_ahead fuel) (consA (opE ixA (varE 0) (varE 2)) (consA (opE ixA (varE 1) (varE 2)) nilA)))) nxS)
        ((List.range m).map fun i => Dt.int ((j : Int) + (i : Nat))) [some (.tup (as.map toD)), some (.tup (bs.map toD)), v] M = some (.rt (.bl (ahNs xs ys)), [some (.tup (as.map toD)), some (.tup (bs.map toD)), v'], M)) ∨
      (∃ v', loopS (fun _ => True) (nameG 2) (ifS (blT (opE neD (opE ixA (varE 0) (varE 2)) (opE ixA (varE 1) (varE 2)))) (rtS (callE (F_law_ahead fuel) (consA (opE ixA (varE 0) (varE 2)) (consA (opE ixA (varE 1) (varE 2)) nilA)))) nxS)
        ((List.range m).map fun i => Dt.int ((j : Int) + (i : Nat))) [some (.tup (as.map toD)), some (.tup (bs.map toD)), v] M = some (.nx, [some (.tup (as.map toD)), some (.tup (bs.map toD)), v'], M) ∧ ahNs xs ys = decide (xs.length < ys.length))
  | 0, j, xs, ys, v, hm, _, _, _, _ => by
    refine .inr ⟨v, ?_, ?_⟩
    · unfold loopS
      rw [List.range_zero, List.map_nil]
      simp
    · cases xs with
      | nil => cases ys <;> simp [ahNs]
      | cons x xs =>
        cases ys with
        | nil => simp [ahNs]
        | cons y ys => simp at hm
  | m + 1, j, xs, ys, v, hm, hx, hy, tx, ty => by
    cases xs with
    | nil => simp at hm
    | cons x xs =>
      cases ys with
      | nil => simp at hm
      | cons y ys =>
        have gx : as[j]? = some x := by
          have : (as.drop j)[0]? = some x := by rw [hx]; rfl
          rw [List.getElem?_drop] at this
          exact this
        have gy : bs[j]? = some y := by
          have : (bs.drop j)[0]? = some y := by rw [hy]; rfl
          rw [List.getElem?_drop] at this
          exact this
        have hx' := tx x List.mem_cons_self
        have hy' := ty y List.mem_cons_self
        have eL : ((List.range (m + 1)).map fun i => Dt.int ((j : Int) + (i : Nat))) = Dt.int (j : Int) :: (List.range m).map fun i => Dt.int (((j + 1 : Nat) : Int) + (i : Nat)) := by
          rw [List.range_succ_eq_map, List.map_cons, List.map_map]
          refine congr (congrArg List.cons ?_) ?_
          · exact congrArg Dt.int (by omega)
          · refine List.map_congr_left fun i _ => ?_
            simp only [Function.comp_def]
            exact congrArg Dt.int (by omega)
        have ebody : (ifS (blT (opE neD (opE ixA (varE 0) (varE 2)) (opE ixA (varE 1) (varE 2)))) (rtS (callE (F_law_ahead fuel) (consA (opE ixA (varE 0) (varE 2)) (consA (opE ixA (varE 1) (varE 2)) nilA)))) nxS) [some (.tup (as.map toD)), some (.tup (bs.map toD)), some (.int (j : Int))] M =
            if x = y then some (.nx, [some (.tup (as.map toD)), some (.tup (bs.map toD)), some (.int (j : Int))], M) else some (.rt (.bl (ahN x y)), [some (.tup (as.map toD)), some (.tup (bs.map toD)), some (.int (j : Int))], M) := by
          have t : (blT (opE neD (opE ixA (varE 0) (varE 2)) (opE ixA (varE 1) (varE 2)))) [some (.tup (as.map toD)), some (.tup (bs.map toD)), some (.int (j : Int))] M = some (!decide (x = y), M) := by
            simp only [blT, opE, varE, List.getElem?_cons_zero, List.getElem?_cons_succ, thn1_some, ix_tup gx, ix_tup gy, neD, eqO_toD hx'.tx hy'.tx (by have := hx'.dp; omega) (by have := hy'.dp; omega), Option.map_some, pur_some]
          rw [if_b t]
          by_cases e : x = y
          · simp [e, nxS]
          · simp only [e, decide_false, Bool.not_false, if_true, if_false]
            simp only [rtS, callE, consA, nilA, opE, varE, List.getElem?_cons_zero, List.getElem?_cons_succ, thn1_some, ix_tup gx, ix_tup gy, ih x y hx' hy']
        rw [eL]
        have e1 : ∀ L, loopS (fun _ => True) (nameG 2) (ifS (blT (opE neD (opE ixA (varE 0) (varE 2)) (opE ixA (varE 1) (varE 2)))) (rtS (callE (F_law_ahead fuel) (consA (opE ixA (varE 0) (varE 2)) (consA (opE ixA (varE 1) (varE 2)) nilA)))) nxS)
            (Dt.int (j : Int) :: L) [some (.tup (as.map toD)), some (.tup (bs.map toD)), v] M = if x = y then loopS (fun _ => True) (nameG 2) (ifS (blT (opE neD (opE ixA (varE 0) (varE 2)) (opE ixA (varE 1) (varE 2)))) (rtS (callE (F_law_ahead fuel) (consA (opE ixA (varE 0) (varE 2)) (consA (opE ixA (varE 1) (varE 2)) nilA)))) nxS) L [some (.tup (as.map toD)), some (.tup (bs.map toD)), some (.int (j : Int))] M else some (.rt (.bl (ahN x y)), [some (.tup (as.map toD)), some (.tup (bs.map toD)), some (.int (j : Int))], M) := by
          intro L
          rw [loopS, if_pos True.intro]
          simp only [nameG, List.set_cons_succ, List.set_cons_zero, ebody]
          by_cases e : x = y
          · simp [e]
          · simp [e]
        rw [e1]
        by_cases e : x = y
        · rw [if_pos e]
          have := ahead_loop ih hn (as := as) (bs := bs) m (j + 1) xs ys (some (.int (j : Int))) (by simp at hm; omega) (by rw [← List.drop_drop, hx]; rfl) (by rw [← List.drop_drop, hy]; rfl) (fun k hk => tx k (List.mem_cons_of_mem _ hk)) (fun k hk => ty k (List.mem_cons_of_mem _ hk))
          have ea : ahNs (x :: xs) (y :: ys) = ahNs xs ys := by rw [ahNs, if_pos e]
          rw [ea]
          simpa using this
        · rw [if_neg e]
          refine .inl ⟨some (.int (j : Int)), ?_⟩
          rw [ahNs, if_neg e]
theorem flat_lt {a b : NestedKey} (h1 : isNo a = false) (h2 : isTup a = false) (hk : kdN a = kdN b) : ltO (toD a) (toD b) = some (ahN a b) := by
  cases a with
  | none => cases h1
  | tup _ => cases h2
  | num x =>
    cases b with
    | num y => rw [ahN]; exact ltO_int x y
    | _ => cases hk
  | text x =>
    cases b with
    | text y => rw [ltO_toD (Nat.zero_le _) (Nat.zero_le _), ltK, ahN]
    | _ => cases hk
theorem ahead_for {fuel n : Nat} {as bs : List NestedKey} {M : Mem} (ih : ∀ a b : NestedKey, Th n a → Th n b → F_law_ahead fuel [toD a, toD b] M = some (.bl (ahN a b), M)) (hn : n ≤ 16) (la : as.length ≤ 10) (lb : bs.length ≤ 10) (pa : ∀ k ∈ as, Th n k) (pb : ∀ k ∈ bs, Th n k) :
    ∃ e, (seqS (forS (rngI (consA (callE (pureF minF) (consA (callE lenF (consA (varE 0) nilA)) (consA (callE lenF (consA (varE 1) nilA)) nilA))) nilA)) (nameG 2) (ifS (blT (opE neD (opE ixA (varE 0) (varE 2)) (opE ixA (varE 1) (varE 2)))) (rtS (callE (F_law_ahead fuel) (consA (opE ixA (varE 0) (varE 2)) (consA (opE ixA (varE 1) (varE 2)) nilA)))) nxS))
      (rtS (opE ltD (callE lenF (consA (varE 0) nilA)) (callE lenF (consA (varE 1) nilA))))) [some (.tup (as.map toD)), some (.tup (bs.map toD)), none] M = some (.rt (.bl (ahNs as bs)), e, M) := by
  have len1 : lenF [Dt.tup (as.map toD)] M = some (.int (as.length : Int), M) := by simp [lenF, lenD, seqAt]
  have len2 : lenF [Dt.tup (bs.map toD)] M = some (.int (bs.length : Int), M) := by simp [lenF, lenD, seqAt]
  have hmin : (if (bs.length : Int) < as.length then (bs.length : Int) else as.length) = ((min as.length bs.length : Nat) : Int) := by
    split <;> omega
  have hrn : rngD [Dt.int ((min as.length bs.length : Nat) : Int)] = some ⟨(List.range (min as.length bs.length)).map fun i => Dt.int (((0 : Nat) : Int) + (i : Nat)), fun _ => True⟩ := by
    simp only [rngD]
    rw [if_pos ⟨by omega, by omega⟩, Int.toNat_natCast]
    rfl
  have hr : (rngI (consA (callE (pureF minF) (consA (callE lenF (consA (varE 0) nilA)) (consA (callE lenF (consA (varE 1) nilA)) nilA))) nilA)) [some (.tup (as.map toD)), some (.tup (bs.map toD)), none] M = some (⟨(List.range (min as.length bs.length)).map fun i => Dt.int (((0 : Nat) : Int) + (i : Nat)), fun _ => True⟩, M) := by
    refine rng_eq (ds := [Dt.int ((min as.length bs.length : Nat) : Int)]) ?_ hrn
    simp only [consA, nilA, callE, pureF, varE, List.getElem?_cons_zero, List.getElem?_cons_succ, thn1_some, len1, len2, minF, pur_some, hmin]
  have lp := ahead_loop (fuel := fuel) (n := n) (M := M) ih hn (as := as) (bs := bs) (min as.length bs.length) 0 as bs none rfl (by simp) (by simp) pa pb
  have ef : (forS (rngI (consA (callE (pureF minF) (consA (callE lenF (consA (varE 0) nilA)) (consA (callE lenF (consA (varE 1) nilA)) nilA))) nilA)) (nameG 2) (ifS (blT (opE neD (opE ixA (varE 0) (varE 2)) (opE ixA (varE 1) (varE 2)))) (rtS (callE (F_law_ahead fuel) (consA (opE ixA (varE 0) (varE 2)) (consA (opE ixA (varE 1) (varE 2)) nilA)))) nxS)) [some (.tup (as.map toD)), some (.tup (bs.map toD)), none] M =
      loopS (fun _ => True) (nameG 2) (ifS (blT (opE neD (opE ixA (varE 0) (varE 2)) (opE ixA (varE 1) (varE 2)))) (rtS (callE (F_law_ahead fuel) (consA (opE ixA (varE 0) (varE 2)) (consA (opE ixA (varE 1) (varE 2)) nilA)))) nxS) ((List.range (min as.length bs.length)).map fun i => Dt.int (((0 : Nat) : Int) + (i : Nat))) [some (.tup (as.map toD)), some (.tup (bs.map toD)), none] M := by
    simp only [forS, hr, thn1_some]
  rcases lp with ⟨v', lp⟩ | ⟨v', lp, he⟩
  · exact ⟨_, seq_rt (by rw [ef]; exact lp)⟩
  · rw [seq_nx (e1 := [some (.tup (as.map toD)), some (.tup (bs.map toD)), v']) (M1 := M) (by rw [ef]; exact lp)]
    refine ⟨[some (.tup (as.map toD)), some (.tup (bs.map toD)), v'], ?_⟩
    have : decide ((as.length : Int) < bs.length) = decide (as.length < bs.length) := by
      by_cases h : as.length < bs.length
      · rw [decide_eq_true h, decide_eq_true (by omega)]
      · rw [decide_eq_false h, decide_eq_false (by omega)]
    simp only [rtS, opE, callE, consA, nilA, varE, List.getElem?_cons_zero, List.getElem?_cons_succ, thn1_some, len1, len2, ltD, ltO_int, Option.map_some, pur_some, he, this]
theorem ahead_main {fuel n : Nat} {a b : NestedKey} {M : Mem} (ih : ∀ a b : NestedKey, 1 ≤ n → Th (n - 1) a → Th (n - 1) b → F_law_ahead fuel [toD a, toD b] M = some (.bl (ahN a b), M)) (hn : n ≤ 16) (ta : Th n a) (tb : Th n b) :
    ∃ e, m_law_ahead (F_law_ahead fuel) [some (toD a), some (toD b), none] M = some (.rt (.bl (ahN a b)), e, M) := by
  unfold m_law_ahead
  have k1 : callE F_law_kind (consA (varE 0) nilA) [some (toD a), some (toD b), none] M = some (.int (kdN a), M) := by
    simp only [callE, consA, nilA, varE, List.getElem?_cons_zero, thn1_some, kind_ok]
  have k2 : callE F_law_kind (consA (varE 1) nilA) [some (toD a), some (toD b), none] M = some (.int (kdN b), M) := by
    simp only [callE, consA, nilA, varE, List.getElem?_cons_zero, List.getElem?_cons_succ, thn1_some, kind_ok]
  have t1 : (blT (opE neD (callE F_law_kind (consA (varE 0) nilA)) (callE F_law_kind (consA (varE 1) nilA)))) [some (toD a), some (toD b), none] M = some (!decide ((kdN a : Int) = kdN b), M) := by
    simp only [blT, opE, k1, k2, thn1_some, neD, eqO_int, Option.map_some, pur_some]
  by_cases hk : kdN a = kdN b
  · have hk' : (!decide ((kdN a : Int) = kdN b)) = false := by rw [decide_eq_true (by omega)]; rfl
    rw [hk'] at t1
    rw [seq_nx (e1 := [some (toD a), some (toD b), none]) (M1 := M) (by rw [if_f t1]; rfl)]
    have t2 : (blT (opE (pure2 isND) (varE 0) (cE .non))) [some (toD a), some (toD b), none] M = some (isNo a, M) := by
      simp only [blT, opE, varE, cE, List.getElem?_cons_zero, thn1_some, isN_toD]
    have t3 : (notT (truT (callE isiF (consA (varE 0) (consA (cE (.ty "tuple")) nilA))))) [some (toD a), some (toD b), none] M = some (!isTup a, M) := by
      simp only [notT, truT, callE, consA, nilA, varE, cE, List.getElem?_cons_zero, thn1_some, isi_tup, truthD, pur_some]
    by_cases h1 : isNo a = true
    · rw [h1] at t2
      refine ⟨[some (toD a), some (toD b), none], seq_rt ?_⟩
      rw [if_t t2]
      have : ahN a b = false := by
        cases a <;> simp [isNo] at h1
        cases b <;> simp [kdN] at hk
        rfl
      rw [this]
      rfl
    · have h1 : isNo a = false := by simpa using h1
      rw [h1] at t2
      rw [seq_nx (e1 := [some (toD a), some (toD b), none]) (M1 := M) (by rw [if_f t2]; rfl)]
      by_cases h2 : isTup a = true
      · rw [h2] at t3
        rw [seq_nx (e1 := [some (toD a), some (toD b), none]) (M1 := M) (by rw [if_f t3]; rfl)]
        cases a with
        | tup as =>
          cases b with
          | tup bs =>
            obtain ⟨la, na, pa⟩ := ta.parts
            obtain ⟨lb, nb, pb⟩ := tb.parts
            rw [toD_tup, toD_tup, ahN]
            exact ahead_for (fun x y hx hy => ih x y na hx hy) (by omega) la lb pa pb
          | _ => cases hk
        | _ => cases h2
      · have h2 : isTup a = false := by simpa using h2
        rw [h2] at t3
        refine ⟨[some (toD a), some (toD b), none], seq_rt ?_⟩
        rw [if_t t3]
        simp only [rtS, opE, varE, List.getElem?_cons_zero, List.getElem?_cons_succ, thn1_some, ltD, flat_lt h1 h2 hk, Option.map_some, pur_some]
  · refine ⟨[some (toD a), some (toD b), none], seq_rt ?_⟩
    have hk' : (!decide ((kdN a : Int) = kdN b)) = true := by rw [decide_eq_false (by omega)]; rfl
    rw [hk'] at t1
    rw [if_t t1]
    simp only [rtS, opE, k1, k2, thn1_some, ltD, ltO_int, Option.map_some, pur_some, kd_lt hk]
theorem ahead_step {fuel n : Nat} {a b : NestedKey} {M : Mem} (ih : ∀ a b : NestedKey, 1 ≤ n → Th (n - 1) a → Th (n - 1) b → F_law_ahead fuel [toD a, toD b] M = some (.bl (ahN a b), M)) (hn : n ≤ 16) (ta : Th n a) (tb : Th n b) : F_law_ahead (fuel + 1) [toD a, toD b] M = some (.bl (ahN a b), M) := by
  refine cutF_id ?_ (by simp [DL.Cl])
  obtain ⟨e, h⟩ := ahead_main ih hn ta tb
  exact body_rt (e := e) h
theorem ahead_ok (fuel : Nat) : ∀ (n : Nat) (a b : NestedKey) (M : Mem), n < fuel → n ≤ 16 → Th n a → Th n b → F_law_ahead fuel [toD a, toD b] M = some (.bl (ahN a b), M) := by
  induction fuel with
  | zero => intro n a b M h; exact absurd h (Nat.not_lt_zero _)
  | succ fuel IH =>
    intro n a b M h hn ta tb
    exact ahead_step (fun x y h1 hx hy => IH (n - 1) x y M (by omega) (by omega) hx hy) hn ta tb
/-! ### the law -/
mutual
theorem depth_rk : ∀ k : NestedKey, (rkN k).depth ≤ k.depth + 1
  | .none => by simp [rkN, NestedKey.depth, NestedKey.depthAll]
  | .num _ => by simp [rkN, NestedKey.depth, NestedKey.depthAll]
  | .text _ => by simp [rkN, NestedKey.depth, NestedKey.depthAll]
  | .tup ks => by
    have := depths_rk ks
    simp only [rkN, NestedKey.depth, NestedKey.depthAll]
    omega
theorem depths_rk : ∀ ks : List NestedKey, NestedKey.depthAll (rkNs ks) ≤ NestedKey.depthAll ks + 1
  | [] => by simp [rkNs, NestedKey.depthAll]
  | k :: ks => by
    have h1 := depth_rk k
    have h2 := depths_rk ks
    simp only [rkNs, NestedKey.depthAll]
    omega
end
mutual
theorem tx_rk : ∀ k : NestedKey, txK (rkN k) = txK k
  | .none => rfl
  | .num _ => rfl
  | .text x => by simp [rkN, txK, txKs]
  | .tup ks => by simp [rkN, txK, txKs, txs_rk ks]
theorem txs_rk : ∀ ks : List NestedKey, txKs (rkNs ks) = txKs ks
  | [] => rfl
  | k :: ks => by simp [rkNs, txKs, tx_rk k, txs_rk ks]
end
theorem eqO_bl (M : Mem) (a b : Bool) : eqO M (.bl a) (.bl b) = some (decide (a = b)) := by
  cases a <;> cases b <;> rfl
theorem law_is_ok (x y : Bool) (M : Mem) : F_law_is [.bl x, .bl y] M = some (.bl (decide (x = y)), M) := by
  refine cutF_id ?_ (by simp [DL.Cl])
  refine body_rt (e := [some (.bl x), some (.bl y)]) ?_
  show m_law_is [some (.bl x), some (.bl y)] M = _
  unfold m_law_is
  have h : isiF [.bl x, .ty "bool"] M = some (.bl true, M) := by simp [isiF, tyD]
  simp only [rtS, andE, callE, consA, nilA, varE, cE, List.getElem?_cons_zero, List.getElem?_cons_succ, thn1_some, h, opE, eqD, eqO_bl, Option.map_some, pur_some]
theorem cutL_map {α β : Type} (f : α → β) (xs : List α) (lo hi : Option Int) : cutL (xs.map f) lo hi = (cutL xs lo hi).map f := by
  simp [cutL, List.map_drop, List.map_take]
theorem cutL_mem {α : Type} {xs : List α} {lo hi : Option Int} {x : α} (h : x ∈ cutL xs lo hi) : x ∈ xs := List.mem_of_mem_drop (List.mem_of_mem_take h)
theorem cutL_len {α : Type} (xs : List α) (lo hi : Option Int) : (cutL xs lo hi).length ≤ xs.length := by
  simp only [cutL, List.length_take, List.length_drop]
  omega
theorem th_key {n : Nat} {k : NestedKey} (h : Th n k) (hn : n ≤ 3) : (rkN k).depth ≤ 16 ∧ txK (rkN k) = true := ⟨by have := depth_rk k; have := h.dp; omega, by rw [tx_rk]; exact h.tx⟩
/-- the sorted list is in order -/
abbrev leR : NestedKey → NestedKey → Bool := PySem.W.sortLe (listOrd itemOrd) false fun k => tkK (rkN k)
theorem sortKD_rk (ks : List NestedKey) : sortKD (ks.map rkN) (ks.map toD) = (ks.mergeSort leR).map toD := by
  unfold sortKD
  have e : (ks.map toD).zip (ks.map rkN) = ks.map fun k => (toD k, rkN k) := by
    induction ks with
    | nil => rfl
    | cons k ks ih => simp [ih]
  rw [e, ← PySem.W.sort_maps (r := leR) (s := PySem.W.sortLe (listOrd itemOrd) false fun p : Dt × NestedKey => tkK p.2) (fun k => (toD k, rkN k)) (fun a _ b _ => rfl), List.map_map]
  rfl
theorem le_ah {a b : NestedKey} (h : leR a b = true) : ahN b a = false := by
  have h1 : (!blL (tkK (rkN b)) (tkK (rkN a))) = true := h
  rw [lt_tk _ _ _ (lt_rk b a)] at h1
  simpa using h1
theorem srt_rk {ks : List NestedKey} (h0 : ks ≠ []) (hd : ∀ k ∈ ks, Th 3 k) : ordsN ((ks.map rkN).map toD) = some (ks.map rkN) := by
  unfold ordsN
  rw [← toDs_map, toOrds_toDs]
  simp only
  rw [if_pos]
  have hh : ∀ k : NestedKey, hdK (rkN k) = some 1 := fun k => by cases k <;> rfl
  cases ks with
  | nil => exact absurd rfl h0
  | cons k ks =>
    unfold srtB
    rw [List.map_cons, Bool.and_eq_true, Bool.and_eq_true, List.all_eq_true, List.all_eq_true]
    refine ⟨⟨by rw [hh]; rfl, fun m hm => ?_⟩, fun x hx => ?_⟩
    · rw [← List.map_cons] at hm
      obtain ⟨m', _, rfl⟩ := List.mem_map.mp hm
      rw [hh, hh]
      rfl
    · rw [← List.map_cons] at hx ⊢
      obtain ⟨x', hx', rfl⟩ := List.mem_map.mp hx
      rw [Bool.and_eq_true, List.all_eq_true]
      refine ⟨decide_eq_true (th_key (hd x' hx') (Nat.le_refl 3)).1, fun y hy => ?_⟩
      obtain ⟨y', _, rfl⟩ := List.mem_map.mp hy
      rw [lt_rk]
      rfl
theorem mapF_rank {M : Mem} : ∀ ks : List NestedKey, (∀ k ∈ ks, Th 3 k) → mapF (F_rank 6) (ks.map toD) M = some ((ks.map rkN).map toD, M)
  | [], _ => rfl
  | k :: ks, h => by
    have hk := h k List.mem_cons_self
    have h1 := rank_ok 6 k M (by have := hk.dp; omega) hk.sz
    rw [List.map_cons, mapF, h1, thn1_some, mapF_rank ks fun x hx => h x (List.mem_cons_of_mem _ hx)]
    rfl
theorem law_ok (ns : List Int) (hl : ns.length ≤ 63) : ∃ M', F_law [.lsk (ns.map .int)] [] = some (.bl true, M') := by
  have main : ∃ e M, Dr 0 M M ∧ m_law [some (.lsk (ns.map .int)), none, none, none, none, none, none] [] = some (.rt (.bl true), e, M) := by
    obtain ⟨st, e0, s0, _⟩ := start_dr hl (M := [])
    generalize hM0 : ([] : Mem) ++ [some st] = M0 at e0 s0
    rw [List.length_nil] at e0 s0
    obtain ⟨k1, M1, ⟨t1, l1⟩, d1, e1⟩ := thing_ok 5 3 M0 (by decide) (by decide) s0
    obtain ⟨k2, M2, ⟨t2, _⟩, d2, e2⟩ := thing_ok 5 3 M1 (by decide) (by decide) d1.st
    unfold m_law
    let S : Dt := .lsk (ns.map .int)
    rw [seq_nx (e1 := [some S, some (.ref 0), none, none, none, none, none]) (M1 := M0) (by
      simp only [setS, callE, consA, nilA, varE, List.getElem?_cons_zero, thn1_some, eq_start, e0]
      rfl)]
    rw [seq_nx (e1 := [some S, some (.ref 0), some (toD k1), none, none, none, none]) (M1 := M1) (by
      have e1' : F_law_thing 5 [.ref 0, .int 3] M0 = some (toD k1, M1) := e1
      simp only [setS, callE, consA, nilA, varE, cE, List.getElem?_cons_zero, List.getElem?_cons_succ, thn1_some, e1']
      rfl)]
    rw [seq_nx (e1 := [some S, some (.ref 0), some (toD k1), some (toD k2), none, none, none]) (M1 := M2) (by
      have e2' : F_law_thing 5 [.ref 0, .int 3] M1 = some (toD k2, M2) := e2
      simp only [setS, callE, consA, nilA, varE, cE, List.getElem?_cons_zero, List.getElem?_cons_succ, thn1_some, e2']
      rfl)]
    -- two may be made of one
    obtain ⟨k3, M3, t3, d3, e3⟩ : ∃ k3 M3, Th 3 k3 ∧ Dr 0 M2 M3 ∧ (ifS (andT (truT (callE isiF (consA (varE 2) (consA (cE (.ty "tuple")) nilA)))) (blT (opE eqD (callE F_law_draw (consA (varE 1) (consA (cE (.int 2)) nilA))) (cE (.int 0))))) (setS 3 (opE (pure2 addD) (slE (varE 2) noO (someO (callE F_law_draw (consA (varE 1) (consA (opE (pure2 addD) (callE lenF (consA (varE 2) nilA)) (cE (.int 1))) nilA))))) (callE F_law_pick (consA (varE 1) (consA (lstE (consA (tupE nilA) (consA (tupE (consA (cE .non) nilA)) (consA (tupE (consA (cE (.str "a")) nilA)) nilA)))) nilA))))) nxS)
        [some S, some (.ref 0), some (toD k1), some (toD k2), none, none, none] M2 = some (.nx, [some S, some (.ref 0), some (toD k1), some (toD k3), none, none, none], M3) := by
      have ti : (truT (callE isiF (consA (varE 2) (consA (cE (.ty "tuple")) nilA)))) [some S, some (.ref 0), some (toD k1), some (toD k2), none, none, none] M2 = some (isTup k1, M2) := by
        simp only [truT, callE, consA, nilA, varE, cE, List.getElem?_cons_zero, List.getElem?_cons_succ, thn1_some, isi_tup, truthD, pur_some]
      by_cases hk : isTup k1 = true
      · obtain ⟨r, M4, _, _, d4, e4⟩ := draw_dr d2.st (b := 2) (by decide) (by decide)
        have td : (blT (opE eqD (callE F_law_draw (consA (varE 1) (consA (cE (.int 2)) nilA))) (cE (.int 0)))) [some S, some (.ref 0), some (toD k1), some (toD k2), none, none, none] M2 = some (decide (r = 0), M4) := by
          simp only [blT, opE, callE, consA, nilA, varE, cE, List.getElem?_cons_zero, List.getElem?_cons_succ, thn1_some, eq_draw, e4, eqD, eqO_int, Option.map_some, pur_some]
        have ta : (andT (truT (callE isiF (consA (varE 2) (consA (cE (.ty "tuple")) nilA)))) (blT (opE eqD (callE F_law_draw (consA (varE 1) (consA (cE (.int 2)) nilA))) (cE (.int 0))))) [some S, some (.ref 0), some (toD k1), some (toD k2), none, none, none] M2 = some (decide (r = 0), M4) := by
          simp only [andT, ti, thn1_some, hk, if_true, td]
        by_cases hr : r = 0
        · cases k1 with
          | tup ks =>
            have lks := l1 ks rfl
            obtain ⟨_, _, pk⟩ := t1.parts
            obtain ⟨q, M5, _, _, d5, e5⟩ := draw_dr d4.st (b := (ks.length : Int) + 1) (by omega) (by omega)
            obtain ⟨kp, M6, hkp, d6, e6⟩ := pick_keys (ks := [.tup [], .tup [.none], .tup [.text "a"]]) d5.st (by simp) (by simp)
            obtain ⟨ps, rfl, hps1, hps2⟩ : ∃ ps, kp = .tup ps ∧ ps.length ≤ 1 ∧ ∀ k ∈ ps, Th 2 k := by
              simp only [List.mem_cons, List.not_mem_nil, or_false] at hkp
              rcases hkp with rfl | rfl | rfl
              · exact ⟨[], rfl, by simp, by simp⟩
              · exact ⟨[.none], rfl, by simp, fun k hk => by simp at hk; subst hk; exact ⟨Nat.zero_le _, rfl, rfl⟩⟩
              · exact ⟨[.text "a"], rfl, by simp, fun k hk => by simp at hk; subst hk; exact ⟨Nat.zero_le _, by decide +kernel, rfl⟩⟩
            refine ⟨.tup (cutL ks none (some q) ++ ps), M6, Th.tup (n := 2) ?_ ?_, (d4.trans d5).trans d6, ?_⟩
            · have := cutL_len ks none (some q)
              rw [List.length_append]
              omega
            · intro k hk
              rcases List.mem_append.mp hk with hk | hk
              · exact pk k (cutL_mem hk)
              · exact hps2 k hk
            · rw [if_t (by rw [ta, decide_eq_true hr])]
              have hlen : lenF [toD (.tup ks)] M4 = some (.int (ks.length : Int), M4) := by
                rw [toD_tup]
                simp [lenF, lenD, seqAt]
              have hsl : (slE (varE 2) noO (someO (callE F_law_draw (consA (varE 1) (consA (opE (pure2 addD) (callE lenF (consA (varE 2) nilA)) (cE (.int 1))) nilA))))) [some S, some (.ref 0), some (toD (.tup ks)), some (toD k2), none, none, none] M4 = some (.tup ((cutL ks none (some q)).map toD), M5) := by
                simp only [slE, noO, someO, callE, consA, nilA, opE, varE, cE, List.getElem?_cons_zero, List.getElem?_cons_succ, thn1_some, hlen, pure2, addD, pur_some, eq_draw, e5]
                rw [toD_tup]
                simp only [slD, cutL_map, pur_some]
              have hls : (lstE (consA (tupE nilA) (consA (tupE (consA (cE .non) nilA)) (consA (tupE (consA (cE (.str "a")) nilA)) nilA)))) [some S, some (.ref 0), some (toD (.tup ks)), some (toD k2), none, none, none] M5 = some (.lst ([NestedKey.tup [], .tup [.none], .tup [.text "a"]].map toD), M5) := by
                exact lstE_ok (consA_ok (tupE_ok (ds := []) rfl (by simp)) (consA_ok (tupE_ok (ds := [.non]) rfl (by simp)) (consA_ok (tupE_ok (ds := [.str "a"]) rfl (by simp)) rfl))) (by simp)
              have hadd : addD (.tup ((cutL ks none (some q)).map toD)) (toD (.tup ps)) = some (toD (.tup (cutL ks none (some q) ++ ps))) := by
                rw [toD_tup, toD_tup, List.map_append]
                simp only [addD]
                have := cutL_len ks none (some q)
                rw [if_pos (by rw [List.length_map, List.length_map, sizeLine_eq]; omega)]
              simp only [setS, opE, hsl, callE, consA, nilA, varE, List.getElem?_cons_zero, List.getElem?_cons_succ, thn1_some, hls, eq_pick, e6, pure2, hadd, pur_some]
              rfl
          | _ => cases hk
        · refine ⟨k2, M4, t2, d4, ?_⟩
          rw [if_f (by rw [ta, decide_eq_false hr])]
          rfl
      · have hk : isTup k1 = false := by simpa using hk
        refine ⟨k2, M2, t2, Dr.refl d2.st, ?_⟩
        rw [if_f (M1 := M2) (by simp only [andT, ti, thn1_some, hk]; rfl)]
        rfl
    rw [seq_nx e3]
    -- the check
    have r1 := rank_ok 6 k1 M3 (by have := t1.dp; omega) t1.sz
    have r3 := rank_ok 6 k3 M3 (by have := t3.dp; omega) t3.sz
    obtain ⟨q1, x1⟩ := th_key t1 (Nat.le_refl 3)
    obtain ⟨q3, x3⟩ := th_key t3 (Nat.le_refl 3)
    have hlt : ltO (toD (rkN k1)) (toD (rkN k3)) = some (ahN k1 k3) := by rw [ltO_toD q1 q3, lt_rk]
    have hah := ahead_ok 6 3 k1 k3 M3 (by decide) (by decide) t1 t3
    have heq1 : eqO M3 (toD (rkN k1)) (toD (rkN k3)) = some (decide (k1 = k3)) := by
      rw [eqO_toD x1 x3 (by omega) (by omega)]
      congr 1
      by_cases h : k1 = k3
      · rw [decide_eq_true h, decide_eq_true (by rw [h])]
      · rw [decide_eq_false h, decide_eq_false fun z => h (rkN_inj _ _ z)]
    have heq2 : eqO M3 (toD k1) (toD k3) = some (decide (k1 = k3)) := eqO_toD t1.tx t3.tx (by have := t1.dp; omega) (by have := t3.dp; omega)
    rw [seq_nx (e1 := [some S, some (.ref 0), some (toD k1), some (toD k3), none, none, none]) (M1 := M3) (by
      rw [if_f (M1 := M3)]
      · rfl
      · simp only [orT, notT, truT, blT, callE, consA, nilA, opE, varE, List.getElem?_cons_zero, List.getElem?_cons_succ, thn1_some, r1, r3, ltD, hlt, hah, Option.map_some, pur_some, law_is_ok, decide_true, truthD, Bool.not_true, Bool.false_eq_true, if_false, eqD, neD, heq1, heq2, eqO_bl])]
    -- four things
    obtain ⟨k4, M4, ⟨t4, _⟩, d4, e4⟩ := thing_ok 5 2 M3 (by decide) (by decide) d3.st
    obtain ⟨k5, M5, ⟨t5, _⟩, d5, e5⟩ := thing_ok 5 1 M4 (by decide) (by decide) d4.st
    rw [seq_nx (e1 := [some S, some (.ref 0), some (toD k1), some (toD k3), some (.lst ([k1, k3, k4, k5].map toD)), none, none]) (M1 := M5) (by
      have e4' : F_law_thing 5 [.ref 0, .int 2] M3 = some (toD k4, M4) := e4
      have e5' : F_law_thing 5 [.ref 0, .int 1] M4 = some (toD k5, M5) := e5
      simp only [setS, lstE, callE, consA, nilA, varE, cE, List.getElem?_cons_zero, List.getElem?_cons_succ, thn1_some, e4', e5']
      rw [if_pos (by rw [sizeLine_eq]; simp)]
      rfl)]
    have hTh : ∀ k ∈ [k1, k3, k4, k5], Th 3 k := fun k hk => by
      simp only [List.mem_cons, List.not_mem_nil, or_false] at hk
      rcases hk with rfl | rfl | rfl | rfl
      · exact t1
      · exact t3
      · exact t4.mono (by decide)
      · exact t5.mono (by decide)
    -- in order
    let L := [k1, k3, k4, k5].mergeSort leR
    have hL : L.length = 4 := List.length_mergeSort _
    have hm : ∀ k ∈ L, Th 3 k := fun k hk => hTh k ((List.mergeSort_perm _ _).mem_iff.mp hk)
    have hsort : sortE (F_rank 6) (varE 4) [some S, some (.ref 0), some (toD k1), some (toD k3), some (.lst ([k1, k3, k4, k5].map toD)), none, none] M5 = some (.lst (L.map toD), M5) := by
      simp only [sortE, varE, List.getElem?_cons_zero, List.getElem?_cons_succ, thn1_some, seqAt, mapF_rank _ hTh, srt_rk (List.cons_ne_nil _ _) hTh]
      rw [sortKD_rk]
    rw [seq_nx (e1 := [some S, some (.ref 0), some (toD k1), some (toD k3), some (.lst ([k1, k3, k4, k5].map toD)), some (.lst (L.map toD)), none]) (M1 := M5) (by
      simp only [setS, hsort, thn1_some]
      rfl)]
    have pw : L.Pairwise fun a b => leR a b = true := PySem.W.sort_pairwise (PySem.W.sortLe_total _ _ _) _
    have ixL : ∀ (j : Nat) (k : NestedKey), L[j]? = some k → ixA (.lst (L.map toD)) (.int (j : Int)) M5 = some (toD k, M5) := fun j k hj => by
      unfold ixA
      simp only [dictAt]
      unfold ixD
      simp only [seqAt, Option.bind_some, at_nat (xs := L.map toD) (p := (j : Int)) (by omega) (show (L.map toD)[((j : Int)).toNat]? = some (toD k) by rw [Int.toNat_natCast, List.getElem?_map, hj]; rfl), pur_some]
    have hlc := lc_pure (gd := fun _ => True) (i := 6) (el := (callE (F_law_ahead 6) (consA (opE ixA (varE 5) (opE (pure2 addD) (varE 6) (cE (.int 1)))) (consA (opE ixA (varE 5) (varE 6)) nilA)))) (e0 := [some S, some (.ref 0), some (toD k1), some (toD k3), some (.lst ([k1, k3, k4, k5].map toD)), some (.lst (L.map toD)), none]) (g := fun _ => .bl false) (M := M5) True.intro
      ((List.range 3).map fun i => Dt.int (0 + (i : Nat))) [] (fun d hd => by
        obtain ⟨j, hj, rfl⟩ := List.mem_map.mp hd
        have hj : j < 3 := List.mem_range.mp hj
        have hj1 : j < L.length := by omega
        have hj2 : j + 1 < L.length := by omega
        have a1 := ixL j L[j] (List.getElem?_eq_getElem hj1)
        have a2 := ixL (j + 1) L[j + 1] (List.getElem?_eq_getElem hj2)
        have le := List.pairwise_iff_getElem.mp pw j (j + 1) hj1 hj2 (Nat.lt_succ_self _)
        have z : F_law_ahead 6 [toD L[j + 1], toD L[j]] M5 = some (.bl false, M5) := by
          rw [ahead_ok 6 3 _ _ M5 (by decide) (by decide) (hm _ (List.getElem_mem hj2)) (hm _ (List.getElem_mem hj1)), le_ah le]
        have c1 : ((j + 1 : Nat) : Int) = (j : Int) + 1 := by omega
        rw [c1] at a2
        simp only [callE, consA, nilA, opE, varE, cE, List.set_cons_succ, List.set_cons_zero, List.getElem?_cons_zero, List.getElem?_cons_succ, thn1_some, pure2, addD, pur_some, Int.zero_add, a1, a2, z]) (by rw [List.length_map, List.length_range, sizeLine_eq]; simp)
    refine ⟨[some S, some (.ref 0), some (toD k1), some (toD k3), some (.lst ([k1, k3, k4, k5].map toD)), some (.lst (L.map toD)), none], M5, Dr.refl d5.st, ?_⟩
    have hr3 : (rngI (consA (cE (.int 3)) nilA)) [some S, some (.ref 0), some (toD k1), some (toD k3), some (.lst ([k1, k3, k4, k5].map toD)), some (.lst (L.map toD)), none] M5 = some (⟨(List.range 3).map fun i => Dt.int (0 + (i : Nat)), fun _ => True⟩, M5) := by
      refine rng_eq (ds := [.int 3]) (by simp only [consA, nilA, cE, thn1_some]) ?_
      simp only [rngD]
      rw [if_pos (by decide)]
      rfl
    have hany : callE anyF (consA (lcE (rngI (consA (cE (.int 3)) nilA)) (.one 6) yesT (callE (F_law_ahead 6) (consA (opE ixA (varE 5) (opE (pure2 addD) (varE 6) (cE (.int 1)))) (consA (opE ixA (varE 5) (varE 6)) nilA))) [6]) nilA) [some S, some (.ref 0), some (toD k1), some (toD k3), some (.lst ([k1, k3, k4, k5].map toD)), some (.lst (L.map toD)), none] M5 = some (.bl false, M5) := by
      simp only [callE, consA, nilA, lcE, hr3, thn1_some]
      rw [show wipeS [some S, some (.ref 0), some (toD k1), some (toD k3), some (.lst ([k1, k3, k4, k5].map toD)), some (.lst (L.map toD)), none] [6] = [some S, some (.ref 0), some (toD k1), some (toD k3), some (.lst ([k1, k3, k4, k5].map toD)), some (.lst (L.map toD)), none] from rfl]
      rw [hlc]
      rfl
    simp only [rtS, unE, hany, thn1_some, notD, pur_some, Bool.not_false]
  obtain ⟨e, M, d, h⟩ := main
  have hb : body 7 m_law [.lsk (ns.map .int)] [] = some (.bl true, M) := body_rt (e := e) h
  unfold F_law cutF
  rw [hb]
  simp only
  rw [if_pos ⟨by simp [DL.Cl], fun i c hi => absurd hi (by simp)⟩]
  exact ⟨_, rfl⟩
end K28
open PySem PySem.W PyProof.Rows
set_option maxRecDepth 100000 in
set_option maxHeartbeats 0 in
theorem PySem.Challenge.cw_everydepth_k28_order_of_things_holds : PySem.Challenge.rw_everydepth_k28_order_of_things.Holds := by
  w_on; o_law; k_head; (case hw => w_witness2)
  k_fill
  refine DL.law_walk (l := PySem.Challenge.rw_everydepth_k28_order_of_things) (k := 8) (F := K28.F_law) rfl rfl ⟨rfl, by decide, by decide⟩ K28.law_ok (fun w h Y => PySem.W.kIn_of Y) ?F
  case F =>
    intro w mg fa h KX G hmg
    refine' K28.all_mk KX G hmg ?n0 ?l0 ?c0 ?k0 ?n1 ?l1 ?c1 ?k1 ?n2 ?l2 ?c2 ?k2 ?n3 ?l3 ?c3 ?k3 ?n4 ?l4 ?c4 ?k4 ?n5 ?l5 ?c5 ?k5 ?n6 ?l6 ?c6 ?k6 ?n7 ?l7 ?c7 ?k7 ?n8 ?l8 ?c8 ?k8 ?z0 ?z1 ?z2 ?z3 ?z4 ?z5 ?z6 ?z7 ?z8 ?z9 ?z10
    (case n0 => k_is)
    (case l0 => k_is)
    (case c0 => k_is)
    (case k0 => k_is)
    (case n1 => k_is)
    (case l1 => k_is)
    (case c1 => k_is)
    (case k1 => k_is)
    (case n2 => k_is)
    (case l2 => k_is)
    (case c2 => k_is)
    (case k2 => k_is)
    (case n3 => k_is)
    (case l3 => k_is)
    (case c3 => k_is)
    (case k3 => k_is)
    (case n4 => k_is)
    (case l4 => k_is)
    (case c4 => k_is)
    (case k4 => k_is)
    (case n5 => k_is)
    (case l5 => k_is)
    (case c5 => k_is)
    (case k5 => k_is)
    (case n6 => k_is)
    (case l6 => k_is)
    (case c6 => k_is)
    (case k6 => k_is)
    (case n7 => k_is)
    (case l7 => k_is)
    (case c7 => k_is)
    (case k7 => k_is)
    (case n8 => k_is)
    (case l8 => k_is)
    (case c8 => k_is)
    (case k8 => k_is)
    (case z0 => k_is)
    (case z1 => k_is)
    (case z2 => k_is)
    (case z3 => k_is)
    (case z4 => k_is)
    (case z5 => k_is)
    (case z6 => k_is)
    (case z7 => k_is)
    (case z8 => k_is)
    (case z9 => k_is)
    (case z10 => k_is)
