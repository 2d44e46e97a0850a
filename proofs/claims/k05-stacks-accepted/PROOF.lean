import PyProof.Rows.All
import Wide.All
import OpenK.AllK
import Wide.FinOn
import HandS.ForMost
import KE.KeyNested
import HandS.TupAny
import HandS.IsInst
import HandS.Deep
import HandS.TupLe
import KE.KDictWalk
import HandS.Conv
import HandS.Star
import HandS.SortOrd
import HandS.SortKw
import KE.SortKeyHeap
import HandS.DictComp
import KE.KDictCopyH
import HandS.Iter
import KE.GoesRev
import PyProof.Rows.NestShow
import PySem.Challenge.RW_everydepth_k05_stacks_accepted
set_option Elab.async false
set_option linter.all false
set_option maxRecDepth 100000
set_option maxHeartbeats 4000000
/-! The data layer, part a: Python values as data (Dt), mutable cells (Mem), what a state says of the abstract heap (Ws), and how data is kept. -/
namespace DL
open PySem L2

/-- a value as data: a tuple or a list that nobody changes is its items (lsk: one that is locked or the module's); 'ref i' is the i-th mutable cell -/
inductive Dt where
  | non | bl (b : Bool) | int (i : Int) | str (x : Str) | adr (a : Addr) | ty (n : String) | ref (i : Nat)
  | tup (ds : List Dt) | lst (ds : List Dt) | lsk (ds : List Dt)
  | dic (ks vs : List Dt) | obj (C : Addr) (ns : List Str) (vs : List Dt) | sett (ds : List Dt)

/-- what stands in the cells; none: given up -/
abbrev Mem := List (Option Dt)

structure Ws where
  ρ : List Addr
  M : Mem
  H : Hp
  ex : List Addr

def Live (w : Ws) (a : Addr) : Prop := ∃ (i : Nat) (c : Dt), w.ρ[i]? = some a ∧ w.M[i]? = some (some c)

/-- nobody changes what stands at a: no live cell, and no list that a comprehension is making -/
structure Fz (w : Ws) (a : Addr) : Prop where
  nl : ¬ Live w a
  nx : a ∉ w.ex

/-- a list that nobody can change: locked, or the module's -/
def ImL (K : PySem.W.Frag) (H : Hp) (a : Addr) (xs : List V) : Prop :=
  (∃ o, H a = some (.frz o (.lst xs))) ∨
    ∃ (o : Obj) (its : Array Value) (n : Nat), K.lookup a = some o ∧ o.cls = .type "list" ∧ o.dict = none ∧ o.data = .seq its n ∧ its.size ≤ sizeLine ∧ Vals xs its.toList
theorem ImL.sq {K : PySem.W.Frag} {H : Hp} {a : Addr} {xs : List V} (h : ImL K H a xs) : SqL K H a xs := by
  rcases h with h | h
  · exact .inl (.inr h)
  · exact .inr h

/-- the object at a is o, as it is -/
def RawIs (a : Addr) (o : Obj) : HO := .ext fun h => h.get? a = some o
/-- the dict at a: its raw object; kx, vx: the values of keys and of values -/
structure RawD (a : Addr) (o : Obj) (es : Array DictEntry) (ep : Nat) (kx vx : List V) : Prop where
  ex : o.ExactDict
  dt : o.data = .dict es ep
  ky : Vals kx (es.toList.map (·.key))
  vl : Vals vx (es.toList.map (·.val))
  sz : es.size ≤ sizeLine
  sm : (a == sysModules) = false

mutual
/-- a key of a dict or a set -/
def toKey : Dt → Option NestedKey
  | .non => some .none
  | .bl b => some (.num (if b = true then 1 else 0))
  | .int i => some (.num i)
  | .str x => some (.text x)
  | .tup ds => (toKeys ds).map .tup
  | .adr _ => none
  | .ty _ => none
  | .ref _ => none
  | .lst _ => none
  | .lsk _ => none
  | .dic _ _ => none
  | .obj _ _ _ => none
  | .sett _ => none
def toKeys : List Dt → Option (List NestedKey)
  | [] => some []
  | d :: ds => match toKey d, toKeys ds with
    | some k, some ks => some (k :: ks)
    | _, _ => none
end
/-- the keys are keys, at most eight deep, no two the same; their hashes -/
def KeysAre (W : World) (ks : List Dt) (es : Array DictEntry) : Prop :=
  ∃ ns : List NestedKey, toKeys ks = some ns ∧ ns.Nodup ∧ (∀ n ∈ ns, n.depth ≤ 8) ∧ es.toList.map (·.hash) = ns.map (·.hash W)

mutual
inductive Dv (K : PySem.W.Frag) (W : World) (w : Ws) : V → Dt → Prop
  | non : Dv K W w .non .non
  | bl (b) : Dv K W w (.bl b) (.bl b)
  | int (i) : Dv K W w (.int i) (.int i)
  | str (x) : Dv K W w (.str x) (.str x)
  | adr (a) : Dv K W w (.ref a) (.adr a)
  | ty (n) : Dv K W w (.ty n) (.ty n)
  | ref {i a} : w.ρ[i]? = some a → Dv K W w (.ref a) (.ref i)
  | tup {a xs ds} : SqT K w.H a xs → Dvs K W w xs ds → Dv K W w (.ref a) (.tup ds)
  | lst {a xs ds} : w.H a = some (.lst xs) → Fz w a → Dvs K W w xs ds → Dv K W w (.ref a) (.lst ds)
  | lstK {a xs ds} : ImL K w.H a xs → Dvs K W w xs ds → Dv K W w (.ref a) (.lsk ds)
  | dic {a o es ep kx vx ks vs} : w.H a = some (RawIs a o) → Fz w a → RawD a o es ep kx vx → KeysAre W ks es → Dvs K W w kx ks → Dvs K W w vx vs → Dv K W w (.ref a) (.dic ks vs)
  | dicK {a o es ep kx vx ks vs} : K.lookup a = some o → RawD a o es ep kx vx → KeysAre W ks es → Dvs K W w kx ks → Dvs K W w vx vs → Dv K W w (.ref a) (.dic ks vs)
  | obj {a C dx xs ns vs} : w.H a = some (.ins C dx (ns.zip xs)) → ns.length = xs.length → Fz w a → Dvs K W w xs vs → Dv K W w (.ref a) (.obj C ns vs)
inductive Dvs (K : PySem.W.Frag) (W : World) (w : Ws) : List V → List Dt → Prop
  | nil : Dvs K W w [] []
  | cons {x xs d ds} : Dv K W w x d → Dvs K W w xs ds → Dvs K W w (x :: xs) (d :: ds)
end

/-- a live cell's content at its address -/
def CellAt (K : PySem.W.Frag) (W : World) (w : Ws) (a : Addr) : Dt → Prop
  | .lst ds => ∃ xs, w.H a = some (.lst xs) ∧ Dvs K W w xs ds
  | .dic ks vs => ∃ o es ep kx vx, w.H a = some (RawIs a o) ∧ RawD a o es ep kx vx ∧ KeysAre W ks es ∧ Dvs K W w kx ks ∧ Dvs K W w vx vs
  | .obj C ns vs => ∃ dx xs, w.H a = some (.ins C dx (ns.zip xs)) ∧ ns.length = xs.length ∧ Dvs K W w xs vs
  | _ => False

structure Ok (K : PySem.W.Frag) (W : World) (w : Ws) : Prop where
  len : w.ρ.length = w.M.length
  nd : w.ρ.Nodup
  has : ∀ a ∈ w.ρ, ∃ o, w.H a = some o
  exl : ∀ a ∈ w.ex, a ∉ w.ρ ∧ ∃ o, w.H a = some o
  cells : ∀ (i : Nat) (a : Addr) (c : Dt), w.ρ[i]? = some a → w.M[i]? = some (some c) → CellAt K W w a c

/-- what is kept from w to w': what data leans on -/
structure Ext0 (w w' : Ws) : Prop where
  pre : ∃ t, w'.ρ = w.ρ ++ t
  imm : ∀ a o, w.H a = some o → ¬ Mut (some o) → w'.H a = some o
  frz : ∀ a o, w.H a = some o → Fz w a → w'.H a = some o ∧ Fz w' a
/-- .. and the lists that are being made -/
structure Ext (w w' : Ws) : Prop extends Ext0 w w' where
  hid : ∀ a ∈ w.ex, w'.H a = w.H a
  exm : ∀ a ∈ w.ex, a ∈ w'.ex

theorem Ext.refl (w : Ws) : Ext w w := ⟨⟨⟨[], by simp⟩, fun _ _ h _ => h, fun _ _ h n => ⟨h, n⟩⟩, fun _ _ => rfl, fun _ h => h⟩
theorem Ext.trans {w w1 w2 : Ws} (a : Ext w w1) (b : Ext w1 w2) : Ext w w2 := by
  refine ⟨⟨?_, fun x o h n => b.imm x o (a.imm x o h n) n, fun x o h n => ?_⟩, fun x h => (b.hid x (a.exm x h)).trans (a.hid x h), fun x h => b.exm x (a.exm x h)⟩
  · obtain ⟨t, e⟩ := a.pre
    obtain ⟨t', e'⟩ := b.pre
    exact ⟨t ++ t', by rw [e', e, List.append_assoc]⟩
  · obtain ⟨h1, n1⟩ := a.frz x o h n
    exact b.frz x o h1 n1
theorem Ext0.get {w w' : Ws} (e : Ext0 w w') {i : Nat} {a : Addr} (h : w.ρ[i]? = some a) : w'.ρ[i]? = some a := by
  obtain ⟨t, q⟩ := e.pre
  rw [q, List.getElem?_append_left (List.getElem?_eq_some_iff.mp h).1]
  exact h
theorem Ext0.sqT {K : PySem.W.Frag} {w w' : Ws} (e : Ext0 w w') {a : Addr} {xs : List V} (h : SqT K w.H a xs) : SqT K w'.H a xs := by
  rcases h with (h | ⟨o, h⟩) | h
  · exact .inl (.inl (e.imm _ _ h (fun z => z)))
  · exact .inl (.inr ⟨o, e.imm _ _ h (fun z => z)⟩)
  · exact .inr h
theorem Ext0.imL {K : PySem.W.Frag} {w w' : Ws} (e : Ext0 w w') {a : Addr} {xs : List V} (h : ImL K w.H a xs) : ImL K w'.H a xs := by
  rcases h with ⟨o, h⟩ | h
  · exact .inl ⟨o, e.imm _ _ h (fun z => z)⟩
  · exact .inr h

section
variable {K : PySem.W.Frag} {W : World}
mutual
theorem Dv.mono0 {w w' : Ws} (e : Ext0 w w') : ∀ (d : Dt) (v : V), Dv K W w v d → Dv K W w' v d
  | .non, _, h => by cases h; exact .non
  | .bl b, _, h => by cases h; exact .bl b
  | .int i, _, h => by cases h; exact .int i
  | .str x, _, h => by cases h; exact .str x
  | .adr a, _, h => by cases h; exact .adr a
  | .ty n, _, h => by cases h; exact .ty n
  | .ref i, _, h => by cases h with | ref h => exact .ref (e.get h)
  | .tup ds, _, h => by cases h with | tup h1 h2 => exact .tup (e.sqT h1) (Dvs.mono0 e ds _ h2)
  | .lst ds, _, h => by
    cases h with
    | lst h1 n h2 =>
      obtain ⟨h1', n'⟩ := e.frz _ _ h1 n
      exact .lst h1' n' (Dvs.mono0 e ds _ h2)
  | .lsk ds, _, h => by cases h with | lstK h1 h2 => exact .lstK (e.imL h1) (Dvs.mono0 e ds _ h2)
  | .dic ks vs, _, h => by
    cases h with
    | dic h1 n r k h2 h3 =>
      obtain ⟨h1', n'⟩ := e.frz _ _ h1 n
      exact .dic h1' n' r k (Dvs.mono0 e ks _ h2) (Dvs.mono0 e vs _ h3)
    | dicK h1 r k h2 h3 => exact .dicK h1 r k (Dvs.mono0 e ks _ h2) (Dvs.mono0 e vs _ h3)
  | .obj C ns vs, _, h => by
    cases h with
    | obj h1 l n h2 =>
      obtain ⟨h1', n'⟩ := e.frz _ _ h1 n
      exact .obj h1' l n' (Dvs.mono0 e vs _ h2)
  | .sett _, _, h => by cases h
theorem Dvs.mono0 {w w' : Ws} (e : Ext0 w w') : ∀ (ds : List Dt) (vs : List V), Dvs K W w vs ds → Dvs K W w' vs ds
  | [], _, h => by cases h; exact .nil
  | d :: ds, _, h => by
    cases h with
    | cons h1 h2 => exact .cons (Dv.mono0 e d _ h1) (Dvs.mono0 e ds _ h2)
end
theorem Dv.mono {w w' : Ws} (e : Ext w w') {d : Dt} {v : V} (h : Dv K W w v d) : Dv K W w' v d := Dv.mono0 e.toExt0 d v h
theorem Dvs.mono {w w' : Ws} (e : Ext w w') {ds : List Dt} {vs : List V} (h : Dvs K W w vs ds) : Dvs K W w' vs ds := Dvs.mono0 e.toExt0 ds vs h
theorem Dvs.length {w : Ws} : ∀ {ds : List Dt} {vs : List V}, Dvs K W w vs ds → vs.length = ds.length
  | _, _, .nil => rfl
  | _, _, .cons _ t => congrArg (· + 1) t.length
theorem Dvs.get {w : Ws} : ∀ {ds : List Dt} {vs : List V} {i : Nat} {d : Dt}, Dvs K W w vs ds → ds[i]? = some d → ∃ v, vs[i]? = some v ∧ Dv K W w v d
  | _, _, _, _, .nil, e => by simp at e
  | _, _, 0, _, .cons h _, e => by simp at e; subst e; exact ⟨_, rfl, h⟩
  | _, _, i + 1, _, .cons _ t, e => by
    obtain ⟨v, h1, h2⟩ := Dvs.get (i := i) t (by simpa using e)
    exact ⟨v, by simpa using h1, h2⟩
theorem Dvs.getV {w : Ws} {ds : List Dt} {vs : List V} {i : Nat} {v : V} (h : Dvs K W w vs ds) (e : vs[i]? = some v) : ∃ d, ds[i]? = some d ∧ Dv K W w v d := by
  have hl : i < ds.length := by rw [← h.length]; exact (List.getElem?_eq_some_iff.mp e).1
  obtain ⟨v', e', r⟩ := h.get (List.getElem?_eq_getElem hl)
  rw [e] at e'; cases e'
  exact ⟨_, List.getElem?_eq_getElem hl, r⟩
theorem Dvs.append {w : Ws} : ∀ {ds es : List Dt} {vs us : List V}, Dvs K W w vs ds → Dvs K W w us es → Dvs K W w (vs ++ us) (ds ++ es)
  | _, _, _, _, .nil, s => s
  | _, _, _, _, .cons h t, s => .cons h (Dvs.append t s)
theorem Dvs.take {w : Ws} : ∀ {ds : List Dt} {vs : List V} (n : Nat), Dvs K W w vs ds → Dvs K W w (vs.take n) (ds.take n)
  | _, _, 0, _ => .nil
  | _, _, _ + 1, .nil => .nil
  | _, _, n + 1, .cons h t => .cons h (Dvs.take n t)
theorem Dvs.drop {w : Ws} : ∀ {ds : List Dt} {vs : List V} (n : Nat), Dvs K W w vs ds → Dvs K W w (vs.drop n) (ds.drop n)
  | _, _, 0, h => h
  | _, _, _ + 1, .nil => .nil
  | _, _, n + 1, .cons _ t => Dvs.drop n t
theorem Dvs.set {w : Ws} {v : V} {d : Dt} (r : Dv K W w v d) : ∀ {ds : List Dt} {vs : List V} (i : Nat), Dvs K W w vs ds → Dvs K W w (vs.set i v) (ds.set i d)
  | _, _, _, .nil => .nil
  | _, _, 0, .cons _ t => .cons r t
  | _, _, i + 1, .cons h t => .cons h (Dvs.set r i t)
theorem Dvs.one {w : Ws} {v : V} {d : Dt} (r : Dv K W w v d) : Dvs K W w [v] [d] := .cons r .nil
theorem CellAt.mono0 {w w' : Ws} (e : Ext0 w w') {a : Addr} (k : w'.H a = w.H a) : ∀ {c : Dt}, CellAt K W w a c → CellAt K W w' a c
  | .lst ds, ⟨xs, h, r⟩ => ⟨xs, k.trans h, Dvs.mono0 e _ _ r⟩
  | .dic ks vs, ⟨o, es, ep, kx, vx, h, r, q, r1, r2⟩ => ⟨o, es, ep, kx, vx, k.trans h, r, q, Dvs.mono0 e _ _ r1, Dvs.mono0 e _ _ r2⟩
  | .obj C ns vs, ⟨dx, xs, h, l, r⟩ => ⟨dx, xs, k.trans h, l, Dvs.mono0 e _ _ r⟩
theorem CellAt.mono {w w' : Ws} (e : Ext w w') {a : Addr} (k : w'.H a = w.H a) {c : Dt} (h : CellAt K W w a c) : CellAt K W w' a c := CellAt.mono0 e.toExt0 k h
/-- what stands in a live cell can be changed -/
theorem CellAt.mut {w : Ws} {a : Addr} : ∀ {c : Dt}, CellAt K W w a c → ∃ o, w.H a = some o ∧ Mut (some o)
  | .lst ds, ⟨xs, h, r⟩ => ⟨_, h, trivial⟩
  | .dic ks vs, ⟨o, es, ep, kx, vx, h, r, q, r1, r2⟩ => ⟨_, h, trivial⟩
  | .obj C ns vs, ⟨dx, xs, h, l, r⟩ => ⟨_, h, trivial⟩
/-- an object that can't be changed is no live cell -/
theorem Ok.notLive {w : Ws} (ok : Ok K W w) {a : Addr} {o : HO} (h : w.H a = some o) (n : ¬ Mut (some o)) : ¬ Live w a := by
  rintro ⟨i, c, h1, h2⟩
  obtain ⟨o', e, m⟩ := (ok.cells i a c h1 h2).mut
  rw [h] at e; cases e
  exact n m
theorem Ok.inj {w : Ws} (ok : Ok K W w) {i j : Nat} {a : Addr} (h : w.ρ[i]? = some a) (h' : w.ρ[j]? = some a) : i = j :=
  (List.getElem?_inj (List.getElem?_eq_some_iff.mp h).1 ok.nd).mp (h.trans h'.symm)

/-- a new object that is data: nothing else changes -/
def Ws.put (w : Ws) (p : Addr) (o : HO) : Ws := { w with H := upd w.H p o }
theorem Ok.fresh {w : Ws} (ok : Ok K W w) {p : Addr} (hp : w.H p = none) : p ∉ w.ρ := fun h => by
  obtain ⟨o, e⟩ := ok.has p h
  rw [hp] at e; cases e
theorem live_put {w : Ws} {p a : Addr} {o : HO} : Live (w.put p o) a ↔ Live w a := Iff.rfl
theorem Ok.exf {w : Ws} (ok : Ok K W w) {p : Addr} (hp : w.H p = none) : p ∉ w.ex := fun h => by
  obtain ⟨_, o, e⟩ := ok.exl p h
  rw [hp] at e; cases e
theorem Ok.exn {w : Ws} (ok : Ok K W w) {p a : Addr} (hp : w.H p = none) (h : a ∈ w.ex) : a ≠ p := fun e => ok.exf hp (e ▸ h)
theorem Ext.put {w : Ws} (ok : Ok K W w) {p : Addr} {o : HO} (hp : w.H p = none) : Ext w (w.put p o) := by
  refine ⟨⟨⟨[], by simp [Ws.put]⟩, fun a u h _ => ?_, fun a u h n => ⟨?_, n.nl, n.nx⟩⟩, fun a h => ?_, fun _ h => h⟩
  · show upd w.H p o a = some u
    rw [upd_ne (ne_of_none h hp)]
    exact h
  · show upd w.H p o a = some u
    rw [upd_ne (ne_of_none h hp)]
    exact h
  · show upd w.H p o a = w.H a
    rw [upd_ne (ok.exn hp h)]
theorem Ok.put {w : Ws} (ok : Ok K W w) {p : Addr} {o : HO} (hp : w.H p = none) : Ok K W (w.put p o) := by
  refine ⟨ok.len, ok.nd, fun a h => ?_, fun a h => ⟨(ok.exl a h).1, ?_⟩, fun i a c h1 h2 => ?_⟩
  · obtain ⟨u, e⟩ := ok.has a h
    exact ⟨u, by show upd w.H p o a = _; rw [upd_ne (ne_of_none e hp)]; exact e⟩
  · obtain ⟨u, e⟩ := (ok.exl a h).2
    exact ⟨u, by show upd w.H p o a = _; rw [upd_ne (ne_of_none e hp)]; exact e⟩
  · have q := ok.cells i a c h1 h2
    obtain ⟨u, e, _⟩ := q.mut
    refine q.mono (Ext.put ok hp) ?_
    show upd w.H p o a = w.H a
    rw [upd_ne (ne_of_none e hp)]
theorem Ok.fz_new {w : Ws} (ok : Ok K W w) {p : Addr} {o : HO} (hp : w.H p = none) : Fz (w.put p o) p := by
  refine ⟨?_, ok.exf hp⟩
  rintro ⟨i, c, h1, _⟩
  exact ok.fresh hp (List.mem_of_getElem? h1)

/-- a new cell -/
def Ws.cell (w : Ws) (p : Addr) (o : HO) (c : Dt) : Ws := { ρ := w.ρ ++ [p], M := w.M ++ [some c], H := upd w.H p o, ex := w.ex }
theorem Ext.cell {w : Ws} (ok : Ok K W w) {p : Addr} {o : HO} {c : Dt} (hp : w.H p = none) : Ext w (w.cell p o c) := by
  refine ⟨⟨⟨[p], rfl⟩, fun a u h _ => ?_, fun a u h n => ⟨?_, ?_, n.nx⟩⟩, fun a h => ?_, fun _ h => h⟩
  · show upd w.H p o a = some u
    rw [upd_ne (ne_of_none h hp)]; exact h
  · show upd w.H p o a = some u
    rw [upd_ne (ne_of_none h hp)]; exact h
  · rintro ⟨i, c', h1, h2⟩
    have h1 : (w.ρ ++ [p])[i]? = some a := h1
    have h2 : (w.M ++ [some c])[i]? = some (some c') := h2
    by_cases hi : i < w.ρ.length
    · rw [List.getElem?_append_left hi] at h1
      rw [List.getElem?_append_left (by rw [← ok.len]; exact hi)] at h2
      exact n.nl ⟨i, c', h1, h2⟩
    · rw [List.getElem?_append_right (by omega)] at h1
      have : a = p := by
        have := List.mem_of_getElem? h1
        simpa using this
      subst this
      rw [hp] at h; cases h
  · show upd w.H p o a = w.H a
    rw [upd_ne (ok.exn hp h)]
theorem Ok.cell {w : Ws} (ok : Ok K W w) {p : Addr} {o : HO} {c : Dt} (hp : w.H p = none) (hc : CellAt K W (w.cell p o c) p c) : Ok K W (w.cell p o c) := by
  refine ⟨?_, ?_, fun a h => ?_, fun a h => ⟨?_, ?_⟩, fun i a c' h1 h2 => ?_⟩
  · show (w.ρ ++ [p]).length = (w.M ++ [some c]).length
    rw [List.length_append, List.length_append, ok.len]; rfl
  · show (w.ρ ++ [p]).Nodup
    rw [List.nodup_append]
    refine ⟨ok.nd, by simp, ?_⟩
    intro x hx y hy
    have : y = p := by simpa using hy
    subst this
    exact fun e => ok.fresh hp (e ▸ hx)
  · show ∃ u, upd w.H p o a = some u
    rcases List.mem_append.mp h with h | h
    · obtain ⟨u, e⟩ := ok.has a h
      exact ⟨u, by rw [upd_ne (ne_of_none e hp)]; exact e⟩
    · have : a = p := by simpa using h
      subst this
      exact ⟨o, upd_same⟩
  · show a ∉ w.ρ ++ [p]
    rw [List.mem_append, not_or]
    exact ⟨(ok.exl a h).1, by simpa using ok.exn hp h⟩
  · obtain ⟨u, e⟩ := (ok.exl a h).2
    exact ⟨u, by show upd w.H p o a = _; rw [upd_ne (ne_of_none e hp)]; exact e⟩
  · have h1 : (w.ρ ++ [p])[i]? = some a := h1
    have h2 : (w.M ++ [some c])[i]? = some (some c') := h2
    by_cases hi : i < w.ρ.length
    · rw [List.getElem?_append_left hi] at h1
      rw [List.getElem?_append_left (by rw [← ok.len]; exact hi)] at h2
      have q := ok.cells i a c' h1 h2
      obtain ⟨u, e, _⟩ := q.mut
      refine q.mono (Ext.cell ok hp) ?_
      show upd w.H p o a = w.H a
      rw [upd_ne (ne_of_none e hp)]
    · rw [List.getElem?_append_right (by omega)] at h1
      rw [List.getElem?_append_right (by rw [← ok.len]; omega)] at h2
      have e1 : a = p := by
        have := List.mem_of_getElem? h1
        simpa using this
      have e2 : some c' = some c := by
        have := List.mem_of_getElem? h2
        simpa using this
      cases e2
      subst e1
      exact hc

/-- a cell's content changes -/
def Ws.chg (w : Ws) (i : Nat) (a : Addr) (o : HO) (c : Dt) : Ws := { ρ := w.ρ, M := w.M.set i (some c), H := upd w.H a o, ex := w.ex }
theorem live_chg {w : Ws} {i : Nat} {a b : Addr} {o : HO} {c : Dt} (h : w.ρ[i]? = some a) (hl : Live w a) : Live (w.chg i a o c) b → Live w b := by
  rintro ⟨j, c', h1, h2⟩
  have h2 : (w.M.set i (some c))[j]? = some (some c') := h2
  by_cases e : i = j
  · subst e
    have h1 : w.ρ[i]? = some b := h1
    rw [h] at h1; cases h1
    exact hl
  · rw [List.getElem?_set_ne e] at h2
    exact ⟨j, c', h1, h2⟩
theorem Ext.chg {w : Ws} (ok : Ok K W w) {i : Nat} {a : Addr} {o : HO} {c c0 : Dt} (h : w.ρ[i]? = some a) (h0 : w.M[i]? = some (some c0)) : Ext w (w.chg i a o c) := by
  have hl : Live w a := ⟨i, c0, h, h0⟩
  have ha : ∀ b ∈ w.ex, b ≠ a := fun b hb e => (ok.exl b hb).1 (e ▸ List.mem_of_getElem? h)
  refine ⟨⟨⟨[], by simp [Ws.chg]⟩, fun b u e n => ?_, fun b u e n => ⟨?_, fun z => n.nl (live_chg h hl z), n.nx⟩⟩, fun b hb => ?_, fun _ h => h⟩
  · have nb : b ≠ a := by
      rintro rfl
      exact ok.notLive e n hl
    show upd w.H a o b = some u
    rw [upd_ne nb]; exact e
  · have nb : b ≠ a := by
      rintro rfl
      exact n.nl hl
    show upd w.H a o b = some u
    rw [upd_ne nb]; exact e
  · show upd w.H a o b = w.H b
    rw [upd_ne (ha b hb)]
theorem Ok.chg {w : Ws} (ok : Ok K W w) {i : Nat} {a : Addr} {o : HO} {c c0 : Dt} (h : w.ρ[i]? = some a) (h0 : w.M[i]? = some (some c0)) (hc : CellAt K W (w.chg i a o c) a c) : Ok K W (w.chg i a o c) := by
  have hi : i < w.M.length := (List.getElem?_eq_some_iff.mp h0).1
  have all : ∀ b, (∃ u, w.H b = some u) → ∃ u, upd w.H a o b = some u := fun b hb => by
    by_cases e : b = a
    · subst e; exact ⟨o, upd_same⟩
    · rw [upd_ne e]; exact hb
  refine ⟨by simp [Ws.chg, ok.len], ok.nd, fun b hb => all b (ok.has b hb), fun b hb => ⟨(ok.exl b hb).1, all b (ok.exl b hb).2⟩, fun j b c' h1 h2 => ?_⟩
  · have h1 : w.ρ[j]? = some b := h1
    have h2 : (w.M.set i (some c))[j]? = some (some c') := h2
    by_cases e : i = j
    · subst e
      rw [h] at h1; cases h1
      rw [List.getElem?_set_self hi] at h2
      cases h2
      exact hc
    · rw [List.getElem?_set_ne e] at h2
      have nb : b ≠ a := fun z => e (ok.inj h (z ▸ h1))
      refine (ok.cells j b c' h1 h2).mono (Ext.chg ok h h0) ?_
      show upd w.H a o b = w.H b
      rw [upd_ne nb]

/-- a cell is given up: its content is data from now on -/
def Ws.drop (w : Ws) (i : Nat) : Ws := { w with M := w.M.set i none }
theorem live_drop {w : Ws} {i : Nat} {b : Addr} : Live (w.drop i) b → Live w b := by
  rintro ⟨j, c', h1, h2⟩
  have h2 : (w.M.set i none)[j]? = some (some c') := h2
  by_cases e : i = j
  · subst e
    by_cases hi : i < w.M.length
    · rw [List.getElem?_set_self hi] at h2; cases h2
    · rw [List.getElem?_eq_none (by simpa using hi)] at h2; cases h2
  · rw [List.getElem?_set_ne e] at h2
    exact ⟨j, c', h1, h2⟩
theorem Ext.drop {w : Ws} {i : Nat} : Ext w (w.drop i) := ⟨⟨⟨[], by simp [Ws.drop]⟩, fun _ _ h _ => h, fun _ _ h n => ⟨h, fun z => n.nl (live_drop z), n.nx⟩⟩, fun _ _ => rfl, fun _ h => h⟩
theorem Ok.drop {w : Ws} (ok : Ok K W w) {i : Nat} : Ok K W (w.drop i) := by
  refine ⟨by simp [Ws.drop, ok.len], ok.nd, ok.has, ok.exl, fun j b c' h1 h2 => ?_⟩
  have h2 : (w.M.set i none)[j]? = some (some c') := h2
  by_cases e : i = j
  · subst e
    by_cases hi : i < w.M.length
    · rw [List.getElem?_set_self hi] at h2; cases h2
    · rw [List.getElem?_eq_none (by simpa using hi)] at h2; cases h2
  · rw [List.getElem?_set_ne e] at h2
    exact (ok.cells j b c' h1 h2).mono Ext.drop rfl
theorem dead_drop {w : Ws} (ok : Ok K W w) {i : Nat} {a : Addr} (h : w.ρ[i]? = some a) : ¬ Live (w.drop i) a := by
  rintro ⟨j, c', h1, h2⟩
  have e : i = j := ok.inj h h1
  subst e
  have h2 : (w.M.set i none)[i]? = some (some c') := h2
  by_cases hi : i < w.M.length
  · rw [List.getElem?_set_self hi] at h2; cases h2
  · rw [List.getElem?_eq_none (by simpa using hi)] at h2; cases h2
theorem CellAt.freeze {w : Ws} (ok : Ok K W w) {i : Nat} {a : Addr} {c : Dt} (h : w.ρ[i]? = some a) (h0 : w.M[i]? = some (some c)) : Dv K W (w.drop i) (.ref a) c := by
  have q := (ok.cells i a c h h0).mono (Ext.drop (i := i)) rfl
  have n : Fz (w.drop i) a := ⟨dead_drop ok h, fun z => (ok.exl a z).1 (List.mem_of_getElem? h)⟩
  cases c with
  | lst ds => obtain ⟨xs, e, r⟩ := q; exact .lst e n r
  | dic ks vs => obtain ⟨o, es, ep, kx, vx, e, r, k, r1, r2⟩ := q; exact .dic e n r k r1 r2
  | obj C ns vs => obtain ⟨dx, xs, e, l, r⟩ := q; exact .obj e l n r
  | _ => exact q.elim

/-! data that names no cell beyond the first n -/
mutual
def Cl (n : Nat) : Dt → Prop
  | .non => True
  | .bl _ => True
  | .int _ => True
  | .str _ => True
  | .adr _ => True
  | .ty _ => True
  | .ref i => i < n
  | .tup ds => Cls n ds
  | .lst ds => Cls n ds
  | .lsk ds => Cls n ds
  | .dic ks vs => Cls n ks ∧ Cls n vs
  | .obj _ _ vs => Cls n vs
  | .sett ds => Cls n ds
def Cls (n : Nat) : List Dt → Prop
  | [] => True
  | d :: ds => Cl n d ∧ Cls n ds
end
/-- only the first n cells are kept -/
def Ws.cut (w : Ws) (n : Nat) : Ws := { ρ := w.ρ.take n, M := w.M.take n, H := w.H, ex := w.ex }
theorem live_cut {w : Ws} {n : Nat} {b : Addr} : Live (w.cut n) b → Live w b := by
  rintro ⟨j, c', h1, h2⟩
  have h1 : (w.ρ.take n)[j]? = some b := h1
  have h2 : (w.M.take n)[j]? = some (some c') := h2
  rw [List.getElem?_take] at h1 h2
  split at h1
  · rename_i hj
    rw [if_pos hj] at h2
    exact ⟨j, c', h1, h2⟩
  · cases h1
theorem fz_cut {w : Ws} {n : Nat} {b : Addr} (h : Fz w b) : Fz (w.cut n) b := ⟨fun z => h.nl (live_cut z), h.nx⟩
mutual
theorem Dv.cut {w : Ws} {n : Nat} : ∀ (d : Dt) (v : V), Cl n d → Dv K W w v d → Dv K W (w.cut n) v d
  | .non, _, _, h => by cases h; exact .non
  | .bl b, _, _, h => by cases h; exact .bl b
  | .int i, _, _, h => by cases h; exact .int i
  | .str x, _, _, h => by cases h; exact .str x
  | .adr a, _, _, h => by cases h; exact .adr a
  | .ty n, _, _, h => by cases h; exact .ty n
  | .ref i, _, c, h => by
    cases h with
    | ref h =>
      refine .ref ?_
      show (w.ρ.take n)[i]? = _
      rw [List.getElem?_take, if_pos (show i < n by simpa [Cl] using c)]
      exact h
  | .tup ds, _, c, h => by cases h with | tup h1 h2 => exact .tup h1 (Dvs.cut ds _ (by simpa [Cl] using c) h2)
  | .lst ds, _, c, h => by
    cases h with
    | lst h1 n h2 => exact .lst h1 (fz_cut n) (Dvs.cut ds _ (by simpa [Cl] using c) h2)
  | .lsk ds, _, c, h => by cases h with | lstK h1 h2 => exact .lstK h1 (Dvs.cut ds _ (by simpa [Cl] using c) h2)
  | .dic ks vs, _, c, h => by
    have c : Cls n ks ∧ Cls n vs := by simpa [Cl] using c
    cases h with
    | dic h1 n r k h2 h3 => exact .dic h1 (fz_cut n) r k (Dvs.cut ks _ c.1 h2) (Dvs.cut vs _ c.2 h3)
    | dicK h1 r k h2 h3 => exact .dicK h1 r k (Dvs.cut ks _ c.1 h2) (Dvs.cut vs _ c.2 h3)
  | .obj C ns vs, _, c, h => by
    cases h with
    | obj h1 l n h2 => exact .obj h1 l (fz_cut n) (Dvs.cut vs _ (by simpa [Cl] using c) h2)
  | .sett _, _, _, h => by cases h
theorem Dvs.cut {w : Ws} {n : Nat} : ∀ (ds : List Dt) (vs : List V), Cls n ds → Dvs K W w vs ds → Dvs K W (w.cut n) vs ds
  | [], _, _, h => by cases h; exact .nil
  | d :: ds, _, c, h => by
    have c : Cl n d ∧ Cls n ds := by simpa [Cls] using c
    cases h with
    | cons h1 h2 => exact .cons (Dv.cut d _ c.1 h1) (Dvs.cut ds _ c.2 h2)
end
theorem CellAt.cut {w : Ws} {n : Nat} {a : Addr} : ∀ {c : Dt}, Cl n c → CellAt K W w a c → CellAt K W (w.cut n) a c
  | .lst ds, k, ⟨xs, h, r⟩ => ⟨xs, h, r.cut _ _ (by simpa [Cl] using k)⟩
  | .dic ks vs, k, ⟨o, es, ep, kx, vx, h, r, q, r1, r2⟩ => by
    have k : Cls n ks ∧ Cls n vs := by simpa [Cl] using k
    exact ⟨o, es, ep, kx, vx, h, r, q, r1.cut _ _ k.1, r2.cut _ _ k.2⟩
  | .obj C ns vs, k, ⟨dx, xs, h, l, r⟩ => ⟨dx, xs, h, l, r.cut _ _ (by simpa [Cl] using k)⟩
mutual
/-- what is related in a state names its cells alone -/
theorem Dv.cl {w : Ws} : ∀ (d : Dt) (v : V), Dv K W w v d → Cl w.ρ.length d
  | .non, _, _ => by simp [Cl]
  | .bl b, _, _ => by simp [Cl]
  | .int i, _, _ => by simp [Cl]
  | .str x, _, _ => by simp [Cl]
  | .adr a, _, _ => by simp [Cl]
  | .ty n, _, _ => by simp [Cl]
  | .ref i, _, h => by cases h with | ref h => simpa [Cl] using (List.getElem?_eq_some_iff.mp h).1
  | .tup ds, _, h => by cases h with | tup _ h2 => simpa [Cl] using Dvs.cl ds _ h2
  | .lst ds, _, h => by
    cases h with
    | lst _ _ h2 => simpa [Cl] using Dvs.cl ds _ h2
  | .lsk ds, _, h => by cases h with | lstK _ h2 => simpa [Cl] using Dvs.cl ds _ h2
  | .dic ks vs, _, h => by
    cases h with
    | dic _ _ _ _ h2 h3 => simpa [Cl] using And.intro (Dvs.cl ks _ h2) (Dvs.cl vs _ h3)
    | dicK _ _ _ h2 h3 => simpa [Cl] using And.intro (Dvs.cl ks _ h2) (Dvs.cl vs _ h3)
  | .obj C ns vs, _, h => by cases h with | obj _ _ _ h2 => simpa [Cl] using Dvs.cl vs _ h2
  | .sett _, _, h => by cases h
theorem Dvs.cl {w : Ws} : ∀ (ds : List Dt) (vs : List V), Dvs K W w vs ds → Cls w.ρ.length ds
  | [], _, _ => by simp [Cls]
  | d :: ds, _, h => by
    cases h with
    | cons h1 h2 => simpa [Cls] using And.intro (Dv.cl d _ h1) (Dvs.cl ds _ h2)
end
theorem CellAt.cl {w : Ws} {a : Addr} : ∀ {c : Dt}, CellAt K W w a c → Cl w.ρ.length c
  | .lst ds, ⟨xs, h, r⟩ => by simpa [Cl] using r.cl
  | .dic ks vs, ⟨o, es, ep, kx, vx, h, r, q, r1, r2⟩ => by simpa [Cl] using And.intro r1.cl r2.cl
  | .obj C ns vs, ⟨dx, xs, h, l, r⟩ => by simpa [Cl] using r.cl

/-- a call's end: the cells made within are given up -/
theorem Ok.cut {w0 w : Ws} (ok0 : Ok K W w0) (ok : Ok K W w) (e : Ext w0 w) (hk : ∀ (i : Nat) (c : Dt), i < w0.M.length → w.M[i]? = some (some c) → w0.M[i]? = some (some c) ∨ Cl w0.M.length c) : Ok K W (w.cut w0.M.length) := by
  refine ⟨by simp [Ws.cut, ok.len], ok.nd.sublist (List.take_sublist _ _), fun a h => ok.has a (List.mem_of_mem_take h), fun a h => ⟨fun z => (ok.exl a h).1 (List.mem_of_mem_take z), (ok.exl a h).2⟩, fun j b c h1 h2 => ?_⟩
  have h1 : (w.ρ.take w0.M.length)[j]? = some b := h1
  have h2 : (w.M.take w0.M.length)[j]? = some (some c) := h2
  rw [List.getElem?_take] at h1 h2
  split at h1
  · rename_i hj
    rw [if_pos hj] at h2
    refine (ok.cells j b c h1 h2).cut ?_
    rcases hk j c hj h2 with q | q
    · have hj0 : j < w0.ρ.length := by rw [ok0.len]; exact hj
      have := (ok0.cells j _ c (List.getElem?_eq_getElem hj0) q).cl
      rwa [ok0.len] at this
    · exact q
  · cases h1
theorem Ext.cut {w0 w : Ws} (ok0 : Ok K W w0) (e : Ext w0 w) : Ext w0 (w.cut w0.M.length) := by
  refine ⟨⟨⟨[], ?_⟩, e.imm, fun a o h n => ?_⟩, e.hid, e.exm⟩
  · obtain ⟨t, q⟩ := e.pre
    show w.ρ.take _ = _
    rw [q, ← ok0.len, List.take_left', List.append_nil]
    rfl
  · obtain ⟨h1, n1⟩ := e.frz a o h n
    exact ⟨h1, fz_cut n1⟩
end
end DL
/-! The data layer, part b: expressions, tests, statements as plain functions. -/
namespace DL
open PySem PySem.Spec PyProof.Rows L2

abbrev Sl := List (Option Dt)
abbrev EM := Sl → Mem → Option (Dt × Mem)
abbrev AM := Sl → Mem → Option (List Dt × Mem)
abbrev TM := Sl → Mem → Option (Bool × Mem)
inductive Fl where
  | nx | bk | ct | rt (d : Dt)
abbrev SM := Sl → Mem → Option (Fl × Sl × Mem)
abbrev FM := List Dt → Mem → Option (Dt × Mem)

/-- the slots as data -/
structure EnvR (K : PySem.W.Frag) (W : World) (w : Ws) (σ : L2.St) (e : Sl) : Prop where
  len : e.length = σ.length
  get : ∀ (i : Nat) (d : Dt), e[i]? = some (some d) → ∃ v, σ[i]? = some (some v) ∧ Dv K W w v d
theorem EnvR.mono {K : PySem.W.Frag} {W : World} {w w' : Ws} {σ : L2.St} {e : Sl} (r : EnvR K W w σ e) (x : Ext w w') : EnvR K W w' σ e :=
  ⟨r.len, fun i d h => let ⟨v, h1, h2⟩ := r.get i d h; ⟨v, h1, h2.mono x⟩⟩
theorem EnvR.set {K : PySem.W.Frag} {W : World} {w : Ws} {σ : L2.St} {e : Sl} (r : EnvR K W w σ e) {v : V} {d : Dt} (h : Dv K W w v d) (i : Nat) : EnvR K W w (σ.set i (some v)) (e.set i (some d)) := by
  refine ⟨by simp [r.len], fun j d' h' => ?_⟩
  by_cases e1 : i = j
  · subst e1
    by_cases hi : i < e.length
    · rw [List.getElem?_set_self hi] at h'
      cases h'
      exact ⟨v, by rw [List.getElem?_set_self (by rw [← r.len]; exact hi)], h⟩
    · rw [List.getElem?_eq_none (by simpa using hi)] at h'; cases h'
  · rw [List.getElem?_set_ne e1] at h' ⊢
    exact r.get j d' h'

/-- what an end wants: any state that keeps w, holds M', and a value that is d -/
def Fin1 (K : PySem.W.Frag) (W : World) (w : Ws) (d : Dt) (M' : Mem) (Q : VK) : Prop := ∀ w' v, w'.M = M' → Ok K W w' → Ext w w' → Dv K W w' v d → Q v w'.H
def tE (K : PySem.W.Frag) (W : World) (m : EM) : TE := fun σ H Q => ∃ w e d M', w.H = H ∧ Ok K W w ∧ EnvR K W w σ e ∧ m e w.M = some (d, M') ∧ Fin1 K W w d M' Q
def tA (K : PySem.W.Frag) (W : World) (m : AM) : TA := fun σ H Q => ∃ w e ds M', w.H = H ∧ Ok K W w ∧ EnvR K W w σ e ∧ m e w.M = some (ds, M') ∧
  ∀ w' vs, w'.M = M' → Ok K W w' → Ext w w' → Dvs K W w' vs ds → Q vs w'.H
def tT (K : PySem.W.Frag) (W : World) (m : TM) : TT := fun σ H Q => ∃ w e b M', w.H = H ∧ Ok K W w ∧ EnvR K W w σ e ∧ m e w.M = some (b, M') ∧
  ∀ w', w'.M = M' → Ok K W w' → Ext w w' → Q b w'.H
/-- a statement's end -/
def FinS (K : PySem.W.Frag) (W : World) (D : Ends) (w' : Ws) (e' : Sl) : Fl → Prop
  | .nx => ∀ σ', EnvR K W w' σ' e' → D.nx σ' w'.H
  | .bk => ∀ σ', EnvR K W w' σ' e' → D.bk σ' w'.H
  | .ct => ∀ σ', EnvR K W w' σ' e' → D.ct σ' w'.H
  | .rt d => ∀ v, Dv K W w' v d → D.rt v w'.H
def tS (K : PySem.W.Frag) (W : World) (m : SM) : TS := fun D σ H => ∃ w e f e' M', w.H = H ∧ Ok K W w ∧ EnvR K W w σ e ∧ m e w.M = some (f, e', M') ∧
  ∀ w', w'.M = M' → Ok K W w' → Ext w w' → FinS K W D w' e' f

abbrev RE (X : Cx) (e : Expr) (m : EM) : Prop := PE X e (tE X.K X.w m)
abbrev RA (X : Cx) (es : List Expr) (m : AM) : Prop := PA X es (tA X.K X.w m)
abbrev RT (X : Cx) (e : Expr) (m : TM) : Prop := PT X e (tT X.K X.w m)
abbrev RW (X : Cx) (e : Expr) (m : TM) : Prop := PW X e (tT X.K X.w m)
abbrev RS (X : Cx) (st : Stmt) (m : SM) : Prop := PS X st (tS X.K X.w m)
abbrev RSs (X : Cx) (st : List Stmt) (m : SM) : Prop := PSs X st (tS X.K X.w m)

section
variable {X : Cx} {e : Expr} {es : List Expr} {st : Stmt} {sts : List Stmt}
theorem pe_weak {t t' : TE} (h : PE X e t) (k : ∀ σ H Q, t' σ H Q → t σ H Q) : PE X e t' := ⟨fun pins s σ H Q I q => h.run pins s σ H Q I (k σ H Q q)⟩
theorem pa_weak {t t' : TA} (h : PA X es t) (k : ∀ σ H Q, t' σ H Q → t σ H Q) : PA X es t' := ⟨fun pos pins s σ H Q I q => h.run pos pins s σ H Q I (k σ H Q q)⟩
theorem pt_weak {t t' : TT} (h : PT X e t) (k : ∀ σ H Q, t' σ H Q → t σ H Q) : PT X e t' := ⟨fun pins s σ H Q I q => h.run pins s σ H Q I (k σ H Q q)⟩
theorem pw_weak {t t' : TT} (h : PW X e t) (k : ∀ σ H Q, t' σ H Q → t σ H Q) : PW X e t' := ⟨fun wh pins s σ H Q I q => h.run wh pins s σ H Q I (k σ H Q q)⟩
theorem ps_weak {t t' : TS} (h : PS X st t) (k : ∀ D σ H, t' D σ H → t D σ H) : PS X st t' := ⟨fun pins s σ H D I q => h.run pins s σ H D I (k D σ H q)⟩
theorem pss_weak {t t' : TS} (h : PSs X sts t) (k : ∀ D σ H, t' D σ H → t D σ H) : PSs X sts t' := ⟨fun pins s σ H D I q => h.run pins s σ H D I (k D σ H q)⟩
end

/-! ### sequencing -/
def thn1 {α β : Type} (m : Option (α × Mem)) (f : α → Mem → Option β) : Option β := match m with
  | some (a, M) => f a M
  | none => none
@[simp] theorem thn1_some {α β : Type} (a : α) (M : Mem) (f : α → Mem → Option β) : thn1 (some (a, M)) f = f a M := rfl
@[simp] theorem thn1_none {α β : Type} (f : α → Mem → Option β) : thn1 none f = none := rfl
theorem thn1_eq {α β : Type} {m : Option (α × Mem)} {f : α → Mem → Option β} {b : β} (h : thn1 m f = some b) : ∃ a M, m = some (a, M) ∧ f a M = some b := by
  cases m with
  | none => simp at h
  | some p => exact ⟨p.1, p.2, rfl, h⟩
/-- a pure partial function of the cells -/
def pur {α : Type} (o : Option α) (M : Mem) : Option (α × Mem) := o.map fun a => (a, M)
@[simp] theorem pur_some {α : Type} (a : α) (M : Mem) : pur (some a) M = some (a, M) := rfl
@[simp] theorem pur_none {α : Type} (M : Mem) : pur (none : Option α) M = none := rfl
theorem pur_eq {α : Type} {o : Option α} {M M' : Mem} {a : α} (h : pur o M = some (a, M')) : M' = M ∧ o = some a := by
  cases o with
  | none => simp at h
  | some b => simp at h; exact ⟨h.2.symm, by rw [h.1]⟩

section
variable {X : Cx} {K : PySem.W.Frag} {W : World}
theorem fin_here {w : Ws} {d : Dt} {Q : VK} {v : V} (f : Fin1 K W w d w.M Q) (ok : Ok K W w) (r : Dv K W w v d) : Q v w.H := f w v rfl ok (Ext.refl w) r
theorem Fin1.after {w w1 : Ws} {d : Dt} {M' : Mem} {Q : VK} (f : Fin1 K W w d M' Q) (x : Ext w w1) : Fin1 K W w1 d M' Q := fun w' v hm ok x' r => f w' v hm ok (x.trans x') r
/-- a rule of HandS as a rule of data -/
theorem re_of {e : Expr} {t : TE} {m : EM} (h : PE X e t) (k : ∀ w σ sl d M' Q, Ok X.K X.w w → EnvR X.K X.w w σ sl → m sl w.M = some (d, M') → Fin1 X.K X.w w d M' Q → t σ w.H Q) : RE X e m :=
  pe_weak h fun σ H Q ⟨w, sl, d, M', hH, ok, r, hm, f⟩ => by subst hH; exact k w σ sl d M' Q ok r hm f

/-! ### names and constants -/
def varE (i : Nat) : EM := fun e M => match e[i]? with
  | some (some d) => some (d, M)
  | _ => none
theorem re_var {i : Nat} {x : Str} {pos : Pos} (hN : X.N[i]? = some x := by rfl) (hv : Vis X.env.scope x := by first | exact Or.inl rfl | exact Or.inr (Or.inl rfl) | exact Or.inr (Or.inr rfl)) (hd : (x == ("__debug__" : Str)) = false := by decide)
    (hcd : (x == ("__classdict__" : Str)) = false := by decide) : RE X (.Name x pos) (varE i) := by
  refine re_of (pe_var hN hv hd hcd) fun w σ sl d M' Q ok r hm f => ?_
  unfold varE at hm
  split at hm
  · rename_i d' hd'
    cases hm
    obtain ⟨v, h1, h2⟩ := r.get i _ hd'
    exact ⟨v, h1, fin_here f ok h2⟩
  · cases hm
def cE (d : Dt) : EM := fun _ M => some (d, M)
theorem re_con {e : Expr} {v : V} {d : Dt} (h : PE X e (tC v)) (r : ∀ w, Dv X.K X.w w v d) : RE X e (cE d) := by
  refine re_of h fun w σ sl d' M' Q ok _ hm f => ?_
  cases hm
  exact fin_here f ok (r w)
theorem re_int {i : Int} {j pos} : RE X (.Constant (.int i) j pos) (cE (.int i)) := re_con pe_int fun _ => .int i
theorem re_str {x : Str} {j pos} : RE X (.Constant (.str x) j pos) (cE (.str x)) := re_con pe_str fun _ => .str x
theorem re_bl {b : Bool} {j pos} : RE X (.Constant (.bool b) j pos) (cE (.bl b)) := re_con pe_bl fun _ => .bl b
theorem re_non {j pos} : RE X (.Constant .none j pos) (cE .non) := re_con pe_non fun _ => .non
theorem re_ty {x : Str} {n : String} {pos : Pos} (hg : Gl X x) (hm : X.mg x = none) (hv : bootBuiltins x = some (.type n)) (hn : x ≠ "__name__" := by decide) (hd : (x == ("__debug__" : Str)) = false := by decide) : RE X (.Name x pos) (cE (.ty n)) :=
  re_con (pe_bltn (v := .ty n) hg hm hv rfl hn hd) fun _ => .ty n

/-! ### operators -/
/-- g is what the operator's rule r does on data -/
def R2Ok (K : PySem.W.Frag) (W : World) (r : R2) (g : Dt → Dt → Mem → Option (Dt × Mem)) : Prop :=
  ∀ (w : Ws) (x y : V) (a b d : Dt) (M' : Mem) (Q : VK), Ok K W w → Dv K W w x a → Dv K W w y b → g a b w.M = some (d, M') → Fin1 K W w d M' Q → r x y w.H Q
def opE (g : Dt → Dt → Mem → Option (Dt × Mem)) (a b : EM) : EM := fun e M => thn1 (a e M) fun x M1 => thn1 (b e M1) fun y M2 => g x y M2
theorem opE_ok {r : R2} {g : Dt → Dt → Mem → Option (Dt × Mem)} {ma mb : EM} (hg : R2Ok K W r g) (σ : L2.St) (H : Hp) (Q : VK) (h : tE K W (opE g ma mb) σ H Q) : tOp r (tE K W ma) (tE K W mb) σ H Q := by
  obtain ⟨w, sl, d, M', rfl, ok, er, hm, f⟩ := h
  obtain ⟨a, M1, h1, hm⟩ := thn1_eq hm
  obtain ⟨b, M2, h2, hm⟩ := thn1_eq hm
  refine ⟨w, sl, a, M1, rfl, ok, er, h1, fun w1 x hM1 ok1 x1 rx => ?_⟩
  refine ⟨w1, sl, b, M2, rfl, ok1, er.mono x1, by rw [hM1]; exact h2, fun w2 y hM2 ok2 x2 ry => ?_⟩
  exact hg w2 x y a b d M' Q ok2 (rx.mono x2) ry (by rw [hM2]; exact hm) (f.after (x1.trans x2))
theorem re_op {a b : Expr} {op : Operator} {pos : Pos} {r : R2} {g} {ma mb : EM} (ho : OpR X (binaryOp op) r) (hg : R2Ok X.K X.w r g) (ha : RE X a ma) (hb : RE X b mb) : RE X (.BinOp a op b pos) (opE g ma mb) :=
  pe_weak (pe_op ho ha hb) (opE_ok hg)
theorem re_cmp {a b : Expr} {op : CmpOp} {pos : Pos} {r : R2} {g} {ma mb : EM} (ho : OpR X (compareOp op) r) (hg : R2Ok X.K X.w r g) (hm : behindInMarks op b = false) (ha : RE X a ma) (hb : RE X b mb) : RE X (.Compare a [op] [b] pos) (opE g ma mb) :=
  pe_weak (pe_cmpR ho ha hb hm) (opE_ok hg)
/-- a bool as a test -/
def blT (m : EM) : TM := fun e M => thn1 (m e M) fun d M1 => match d with
  | .bl b => some (b, M1)
  | _ => none
theorem blT_ok {m : EM} {t : TE} (k : ∀ σ H Q, tE K W m σ H Q → t σ H Q) (σ : L2.St) (H : Hp) (Q : Bool → Hp → Prop) (h : tT K W (blT m) σ H Q) : tTest t σ H Q := by
  obtain ⟨w, sl, b, M', rfl, ok, er, hm, f⟩ := h
  obtain ⟨d, M1, h1, hm⟩ := thn1_eq hm
  refine k _ _ _ ⟨w, sl, d, M1, rfl, ok, er, h1, fun w1 v hM1 ok1 x1 r => ?_⟩
  cases d with
  | bl c =>
    simp at hm
    obtain ⟨rfl, rfl⟩ := hm
    cases r
    exact ⟨c, rfl, f w1 hM1 ok1 x1⟩
  | _ => simp at hm
theorem rt_cmp {a b : Expr} {op : CmpOp} {pos : Pos} {r : R2} {g} {ma mb : EM} (ho : OpR X (compareOp op) r) (hg : R2Ok X.K X.w r g) (hm : behindInMarks op b = false) (ha : RE X a ma) (hb : RE X b mb) : RT X (.Compare a [op] [b] pos) (blT (opE g ma mb)) :=
  pt_weak (pt_cmpR ho ha hb hm) (blT_ok (opE_ok hg))
/-- one place -/
def unE (g : Dt → Option Dt) (a : EM) : EM := fun e M => thn1 (a e M) fun x M1 => pur (g x) M1
def U1Ok (K : PySem.W.Frag) (W : World) (r : V → Hp → VK → Prop) (g : Dt → Option Dt) : Prop :=
  ∀ (w : Ws) (x : V) (a d : Dt) (Q : VK), Ok K W w → Dv K W w x a → g a = some d → Fin1 K W w d w.M Q → r x w.H Q
theorem re_un {a : Expr} {op : UnaryOp} {pos : Pos} {r : V → Hp → VK → Prop} {g} {ma : EM} (ho : UnR X (unaryOp op) r) (hg : U1Ok X.K X.w r g) (ha : RE X a ma) : RE X (.UnaryOp op a pos) (unE g ma) := by
  refine pe_weak (pe_un ho ha) fun σ H Q h => ?_
  obtain ⟨w, sl, d, M', rfl, ok, er, hm, f⟩ := h
  obtain ⟨x, M1, h1, hm⟩ := thn1_eq hm
  obtain ⟨rfl, hm'⟩ := pur_eq hm
  refine ⟨w, sl, x, _, rfl, ok, er, h1, fun w1 v hM1 ok1 x1 r => ?_⟩
  refine hg w1 v x d Q ok1 r hm' ?_
  rw [hM1]
  exact f.after x1
def negD : Dt → Option Dt
  | .int i => some (.int (-i))
  | _ => none
theorem neg_ok : U1Ok K W (rU fun i => .int (-i)) negD := by
  intro w x a d Q ok r h f
  cases r <;> simp [negD] at h
  subst h
  exact ⟨_, rfl, fin_here f ok (.int _)⟩

/-! ### tests -/
def truthD (M : Mem) : Dt → Option Bool
  | .non => some false
  | .bl b => some b
  | .int i => some (i != 0)
  | .str x => if x.length ≤ sizeLine then some ((x.length : Int) != 0) else none
  | .tup ds => some (!ds.isEmpty)
  | .lst ds => some (!ds.isEmpty)
  | .lsk ds => some (!ds.isEmpty)
  | .ref i => match M[i]? with
    | some (some (.lst ds)) => some (!ds.isEmpty)
    | _ => none
  | _ => none
theorem Dvs.isEmpty {w : Ws} {xs : List V} {ds : List Dt} (h : Dvs K W w xs ds) : xs.isEmpty = ds.isEmpty := by cases h <;> rfl
theorem truth_ok {w : Ws} {v : V} {d : Dt} {b : Bool} (ok : Ok K W w) (r : Dv K W w v d) (h : truthD w.M d = some b) : TruV K v w.H b := by
  cases r with
  | non => simp [truthD] at h; exact h
  | bl c => simp [truthD] at h; exact h.symm
  | int i => simp only [truthD, Option.some.injEq] at h; exact h.symm
  | str x =>
    simp only [truthD] at h
    split at h
    · rename_i hl
      cases h
      exact ⟨hl, rfl⟩
    · cases h
  | adr a => simp [truthD] at h
  | ty n => simp [truthD] at h
  | tup h1 h2 => simp only [truthD, Option.some.injEq] at h; exact .inr (.inl ⟨_, h1, by rw [h2.isEmpty]; exact h.symm⟩)
  | lst h1 _ h2 => simp only [truthD, Option.some.injEq] at h; exact .inl ⟨_, SqL.of h1, by rw [h2.isEmpty]; exact h.symm⟩
  | lstK h1 h2 => simp only [truthD, Option.some.injEq] at h; exact .inl ⟨_, h1.sq, by rw [h2.isEmpty]; exact h.symm⟩
  | ref hr =>
    simp only [truthD] at h
    split at h
    · rename_i ds hm
      obtain ⟨xs, e, q⟩ := ok.cells _ _ _ hr hm
      simp only [Option.some.injEq] at h
      exact .inl ⟨_, SqL.of e, by rw [q.isEmpty]; exact h.symm⟩
    · cases h
  | dic => simp [truthD] at h
  | dicK => simp [truthD] at h
  | obj => simp [truthD] at h
def truT (m : EM) : TM := fun e M => thn1 (m e M) fun d M1 => pur (truthD M1 d) M1
theorem rt_tru {e : Expr} {m : EM} (h : RE X e m) (he : ∀ whole, isTrue e X.env whole = (do let v ← whole; standAt e.pos; holding [v] (truthy v)) := by intro _; rfl) : RT X e (truT m) := by
  refine pt_weak (pt_truth h he) fun σ H Q q => ?_
  obtain ⟨w, sl, b, M', rfl, ok, er, hm, f⟩ := q
  obtain ⟨d, M1, h1, hm⟩ := thn1_eq hm
  obtain ⟨rfl, hm'⟩ := pur_eq hm
  refine ⟨w, sl, d, _, rfl, ok, er, h1, fun w1 v hM1 ok1 x1 r => ⟨b, truth_ok ok1 r (by rw [hM1]; exact hm'), f w1 hM1 ok1 x1⟩⟩
def andT (a b : TM) : TM := fun e M => thn1 (a e M) fun c M1 => if c = true then b e M1 else some (false, M1)
def orT (a b : TM) : TM := fun e M => thn1 (a e M) fun c M1 => if c = true then some (true, M1) else b e M1
def notT (a : TM) : TM := fun e M => thn1 (a e M) fun c M1 => some (!c, M1)
theorem rw_and1 {a : Expr} {pos : Pos} {ma : TM} (ha : RT X a ma) : RW X (.BoolOp .And [a] pos) ma := pw_and1 ha
theorem rw_or1 {a : Expr} {pos : Pos} {ma : TM} (ha : RT X a ma) : RW X (.BoolOp .Or [a] pos) ma := pw_or1 ha
theorem rw_and {a b : Expr} {rest : List Expr} {pos : Pos} {ma mb : TM} (ha : RT X a ma) (hb : RW X (.BoolOp .And (b :: rest) pos) mb) : RW X (.BoolOp .And (a :: b :: rest) pos) (andT ma mb) := by
  refine pw_weak (pw_and ha hb) fun σ H Q q => ?_
  obtain ⟨w, sl, b, M', rfl, ok, er, hm, f⟩ := q
  obtain ⟨c, M1, h1, hm⟩ := thn1_eq hm
  refine ⟨w, sl, c, M1, rfl, ok, er, h1, fun w1 hM1 ok1 x1 => ?_⟩
  cases c with
  | true => exact ⟨w1, sl, b, M', rfl, ok1, er.mono x1, by rw [hM1]; exact hm, fun w2 h2 ok2 x2 => f w2 h2 ok2 (x1.trans x2)⟩
  | false =>
    simp at hm
    obtain ⟨rfl, rfl⟩ := hm
    exact f w1 hM1 ok1 x1
theorem rw_or {a b : Expr} {rest : List Expr} {pos : Pos} {ma mb : TM} (ha : RT X a ma) (hb : RW X (.BoolOp .Or (b :: rest) pos) mb) : RW X (.BoolOp .Or (a :: b :: rest) pos) (orT ma mb) := by
  refine pw_weak (pw_or ha hb) fun σ H Q q => ?_
  obtain ⟨w, sl, b, M', rfl, ok, er, hm, f⟩ := q
  obtain ⟨c, M1, h1, hm⟩ := thn1_eq hm
  refine ⟨w, sl, c, M1, rfl, ok, er, h1, fun w1 hM1 ok1 x1 => ?_⟩
  cases c with
  | false => exact ⟨w1, sl, b, M', rfl, ok1, er.mono x1, by rw [hM1]; exact hm, fun w2 h2 ok2 x2 => f w2 h2 ok2 (x1.trans x2)⟩
  | true =>
    simp at hm
    obtain ⟨rfl, rfl⟩ := hm
    exact f w1 hM1 ok1 x1
theorem rt_not {a : Expr} {pos : Pos} {ma : TM} (ha : RT X a ma) : RT X (.UnaryOp .Not a pos) (notT ma) := by
  refine pt_weak (pt_not ha) fun σ H Q q => ?_
  obtain ⟨w, sl, b, M', rfl, ok, er, hm, f⟩ := q
  obtain ⟨c, M1, h1, hm⟩ := thn1_eq hm
  simp only [Option.some.injEq, Prod.mk.injEq] at hm
  obtain ⟨rfl, rfl⟩ := hm
  exact ⟨w, sl, c, M1, rfl, ok, er, h1, fun w1 hM1 ok1 x1 => f w1 hM1 ok1 x1⟩
theorem rt_w {e : Expr} {m : TM} (h : RW X e m) : RT X e m := h.pt
/-- and, or, not as values: all but the last are bools -/
def andE (a b : EM) : EM := fun e M => thn1 (a e M) fun c M1 => match c with
  | .bl true => b e M1
  | .bl false => some (.bl false, M1)
  | _ => none
def orE (a b : EM) : EM := fun e M => thn1 (a e M) fun c M1 => match c with
  | .bl true => some (.bl true, M1)
  | .bl false => b e M1
  | _ => none
def notD : Dt → Option Dt
  | .bl b => some (.bl (!b))
  | _ => none
theorem re_one {op} {a : Expr} {pos : Pos} {m : EM} (h : RE X a m) : RE X (.BoolOp op [a] pos) m := pe_one h
theorem re_and {a b : Expr} {rest : List Expr} {pos : Pos} {ma mb : EM} (ha : RE X a ma) (hb : RE X (.BoolOp .And (b :: rest) pos) mb) : RE X (.BoolOp .And (a :: b :: rest) pos) (andE ma mb) := by
  refine pe_weak (pe_and ha hb) fun σ H Q q => ?_
  obtain ⟨w, sl, d, M', rfl, ok, er, hm, f⟩ := q
  obtain ⟨c, M1, h1, hm⟩ := thn1_eq hm
  refine ⟨w, sl, c, M1, rfl, ok, er, h1, fun w1 v hM1 ok1 x1 r => ?_⟩
  cases c with
  | bl c =>
    cases r
    refine ⟨c, rfl, ?_⟩
    cases c with
    | true => exact ⟨w1, sl, d, M', rfl, ok1, er.mono x1, by rw [hM1]; exact hm, f.after x1⟩
    | false =>
      simp at hm
      obtain ⟨rfl, rfl⟩ := hm
      exact f w1 _ hM1 ok1 x1 (.bl _)
  | _ => simp at hm
theorem re_or {a b : Expr} {rest : List Expr} {pos : Pos} {ma mb : EM} (ha : RE X a ma) (hb : RE X (.BoolOp .Or (b :: rest) pos) mb) : RE X (.BoolOp .Or (a :: b :: rest) pos) (orE ma mb) := by
  refine pe_weak (pe_or ha hb) fun σ H Q q => ?_
  obtain ⟨w, sl, d, M', rfl, ok, er, hm, f⟩ := q
  obtain ⟨c, M1, h1, hm⟩ := thn1_eq hm
  refine ⟨w, sl, c, M1, rfl, ok, er, h1, fun w1 v hM1 ok1 x1 r => ?_⟩
  cases c with
  | bl c =>
    cases r
    refine ⟨c, rfl, ?_⟩
    cases c with
    | false => exact ⟨w1, sl, d, M', rfl, ok1, er.mono x1, by rw [hM1]; exact hm, f.after x1⟩
    | true =>
      simp at hm
      obtain ⟨rfl, rfl⟩ := hm
      exact f w1 _ hM1 ok1 x1 (.bl _)
  | _ => simp at hm
theorem re_not {a : Expr} {pos : Pos} {ma : EM} (ha : RE X a ma) : RE X (.UnaryOp .Not a pos) (unE notD ma) := by
  refine pe_weak (pe_not ha) fun σ H Q q => ?_
  obtain ⟨w, sl, d, M', rfl, ok, er, hm, f⟩ := q
  obtain ⟨c, M1, h1, hm⟩ := thn1_eq hm
  obtain ⟨rfl, hm'⟩ := pur_eq hm
  refine ⟨w, sl, c, _, rfl, ok, er, h1, fun w1 v hM1 ok1 x1 r => ?_⟩
  cases c with
  | bl c =>
    cases r
    simp [notD] at hm'
    subst hm'
    exact ⟨_, rfl, f w1 _ hM1 ok1 x1 (.bl _)⟩
  | _ => simp [notD] at hm'
def ifE (t : TM) (a b : EM) : EM := fun e M => thn1 (t e M) fun c M1 => if c = true then a e M1 else b e M1
theorem re_if {c a b : Expr} {pos : Pos} {mc : TM} {ma mb : EM} (hc : RT X c mc) (ha : RE X a ma) (hb : RE X b mb) : RE X (.IfExp c a b pos) (ifE mc ma mb) := by
  refine pe_weak (pe_ifExp hc ha hb) fun σ H Q q => ?_
  obtain ⟨w, sl, d, M', rfl, ok, er, hm, f⟩ := q
  obtain ⟨c, M1, h1, hm⟩ := thn1_eq hm
  refine ⟨w, sl, c, M1, rfl, ok, er, h1, fun w1 hM1 ok1 x1 => ?_⟩
  cases c with
  | true => exact ⟨w1, sl, d, M', rfl, ok1, er.mono x1, by rw [hM1]; exact hm, f.after x1⟩
  | false => exact ⟨w1, sl, d, M', rfl, ok1, er.mono x1, by rw [hM1]; exact hm, f.after x1⟩

/-! ### argument lists, displays -/
def nilA : AM := fun _ M => some ([], M)
def consA (a : EM) (r : AM) : AM := fun e M => thn1 (a e M) fun x M1 => thn1 (r e M1) fun xs M2 => some (x :: xs, M2)
theorem ra_nil : RA X [] nilA := by
  refine pa_weak pa_nil fun σ H Q q => ?_
  obtain ⟨w, sl, d, M', rfl, ok, er, hm, f⟩ := q
  cases hm
  exact f w [] rfl ok (Ext.refl w) .nil
theorem ra_cons {e : Expr} {es : List Expr} {me : EM} {mr : AM} (ha : RE X e me) (hr : RA X es mr) (hs : starEach (e :: es) X.env = (false, eval e X.env) :: starEach es X.env := by rfl) : RA X (e :: es) (consA me mr) := by
  refine pa_weak (pa_cons ha hr hs) fun σ H Q q => ?_
  obtain ⟨w, sl, d, M', rfl, ok, er, hm, f⟩ := q
  obtain ⟨a, M1, h1, hm⟩ := thn1_eq hm
  obtain ⟨b, M2, h2, hm⟩ := thn1_eq hm
  cases hm
  refine ⟨w, sl, a, M1, rfl, ok, er, h1, fun w1 x hM1 ok1 x1 rx => ?_⟩
  refine ⟨w1, sl, b, M', rfl, ok1, er.mono x1, by rw [hM1]; exact h2, fun w2 y hM2 ok2 x2 ry => ?_⟩
  exact f w2 _ hM2 ok2 (x1.trans x2) (.cons (rx.mono x2) ry)
def tupE (a : AM) : EM := fun e M => thn1 (a e M) fun ds M1 => if ds.length ≤ sizeLine then some (.tup ds, M1) else none
def lstE (a : AM) : EM := fun e M => thn1 (a e M) fun ds M1 => if ds.length ≤ sizeLine then some (.lst ds, M1) else none
/-- .. one that will be changed -/
def lstC (a : AM) : EM := fun e M => thn1 (a e M) fun ds M1 => if ds.length ≤ sizeLine then some (.ref M1.length, M1 ++ [some (.lst ds)]) else none
theorem put_tup {w : Ws} {p : Addr} {xs : List V} {ds : List Dt} (ok : Ok K W w) (hp : w.H p = none) (r : Dvs K W w xs ds) : Dv K W (w.put p (.tup xs)) (.ref p) (.tup ds) :=
  .tup (SqT.of upd_same) (r.mono (Ext.put ok hp))
theorem put_lst {w : Ws} {p : Addr} {xs : List V} {ds : List Dt} (ok : Ok K W w) (hp : w.H p = none) (r : Dvs K W w xs ds) : Dv K W (w.put p (.lst xs)) (.ref p) (.lst ds) :=
  .lst upd_same (ok.fz_new hp) (r.mono (Ext.put ok hp))
theorem cell_lst {w : Ws} {p : Addr} {xs : List V} {ds : List Dt} (ok : Ok K W w) (hp : w.H p = none) (r : Dvs K W w xs ds) : Ok K W (w.cell p (.lst xs) (.lst ds)) :=
  ok.cell hp ⟨xs, upd_same, r.mono (Ext.cell ok hp)⟩
theorem cell_ref {w : Ws} {p : Addr} {o : HO} {c : Dt} (ok : Ok K W w) : Dv K W (w.cell p o c) (.ref p) (.ref w.M.length) := by
  refine .ref ?_
  show (w.ρ ++ [p])[w.M.length]? = some p
  rw [← ok.len]
  simp
theorem fin_tup {w : Ws} {xs : List V} {ds : List Dt} {Q : VK} (ok : Ok K W w) (r : Dvs K W w xs ds) (f : Fin1 K W w (.tup ds) w.M Q) : ∀ p, w.H p = none → Q (.ref p) (upd w.H p (.tup xs)) := fun p hp =>
  f (w.put p (.tup xs)) _ rfl (ok.put hp) (Ext.put ok hp) (put_tup ok hp r)
theorem fin_lst {w : Ws} {xs : List V} {ds : List Dt} {Q : VK} (ok : Ok K W w) (r : Dvs K W w xs ds) (f : Fin1 K W w (.lst ds) w.M Q) : ∀ p, w.H p = none → Q (.ref p) (upd w.H p (.lst xs)) := fun p hp =>
  f (w.put p (.lst xs)) _ rfl (ok.put hp) (Ext.put ok hp) (put_lst ok hp r)
theorem fin_cell {w : Ws} {xs : List V} {ds : List Dt} {Q : VK} (ok : Ok K W w) (r : Dvs K W w xs ds) (f : Fin1 K W w (.ref w.M.length) (w.M ++ [some (.lst ds)]) Q) : ∀ p, w.H p = none → Q (.ref p) (upd w.H p (.lst xs)) := fun p hp =>
  f (w.cell p (.lst xs) (.lst ds)) _ rfl (cell_lst ok hp r) (Ext.cell ok hp) (cell_ref ok)
theorem re_tup {es : List Expr} {x1} {pos : Pos} {m : AM} (h : RA X es m) : RE X (.Tuple es x1 pos) (tupE m) := by
  refine pe_weak (pe_tup h) fun σ H Q q => ?_
  obtain ⟨w, sl, d, M', rfl, ok, er, hm, f⟩ := q
  obtain ⟨ds, M1, h1, hm⟩ := thn1_eq hm
  split at hm
  · rename_i hl
    cases hm
    refine ⟨w, sl, ds, M', rfl, ok, er, h1, fun w1 xs hM1 ok1 x1 r => ⟨by rw [r.length]; exact hl, fin_tup ok1 r ?_⟩⟩
    rw [hM1]; exact f.after x1
  · cases hm
theorem re_lst {es : List Expr} {pos : Pos} {m : AM} (h : RA X es m) : RE X (.List es pos) (lstE m) := by
  refine pe_weak (pe_lst h) fun σ H Q q => ?_
  obtain ⟨w, sl, d, M', rfl, ok, er, hm, f⟩ := q
  obtain ⟨ds, M1, h1, hm⟩ := thn1_eq hm
  split at hm
  · rename_i hl
    cases hm
    refine ⟨w, sl, ds, M', rfl, ok, er, h1, fun w1 xs hM1 ok1 x1 r => ⟨by rw [r.length]; exact hl, fin_lst ok1 r ?_⟩⟩
    rw [hM1]; exact f.after x1
  · cases hm
theorem re_lstC {es : List Expr} {pos : Pos} {m : AM} (h : RA X es m) : RE X (.List es pos) (lstC m) := by
  refine pe_weak (pe_lst h) fun σ H Q q => ?_
  obtain ⟨w, sl, d, M', rfl, ok, er, hm, f⟩ := q
  obtain ⟨ds, M1, h1, hm⟩ := thn1_eq hm
  split at hm
  · rename_i hl
    simp only [Option.some.injEq, Prod.mk.injEq] at hm
    obtain ⟨rfl, rfl⟩ := hm
    refine ⟨w, sl, ds, M1, rfl, ok, er, h1, fun w1 xs hM1 ok1 x1 r => ⟨by rw [r.length]; exact hl, fin_cell ok1 r ?_⟩⟩
    rw [hM1]; exact f.after x1
  · cases hm
/-- a list is given up as a cell: it is data from now on -/
def frzD (M : Mem) : Dt → Option (Dt × Mem)
  | .ref i => match M[i]? with
    | some (some c) => some (c, M.set i none)
    | _ => none
  | _ => none
def frzE (m : EM) : EM := fun e M => thn1 (m e M) fun d M1 => frzD M1 d
theorem re_frz {e : Expr} {m : EM} (h : RE X e m) : RE X e (frzE m) := by
  refine pe_weak h fun σ H Q q => ?_
  obtain ⟨w, sl, d, M', rfl, ok, er, hm, f⟩ := q
  obtain ⟨d1, M1, h1, hm⟩ := thn1_eq hm
  refine ⟨w, sl, d1, M1, rfl, ok, er, h1, fun w1 v hM1 ok1 x1 r => ?_⟩
  cases r with
  | ref hr =>
    simp only [frzD] at hm
    split at hm
    · rename_i c hc
      cases hm
      refine f (w1.drop _) _ ?_ ok1.drop (x1.trans Ext.drop) (CellAt.freeze ok1 hr (by rw [hM1]; exact hc))
      show w1.M.set _ none = M1.set _ none
      rw [hM1]
    · cases hm
  | _ => simp [frzD] at hm

/-! ### statements -/
def nxS : SM := fun e M => some (.nx, e, M)
def seqS (a b : SM) : SM := fun e M => match a e M with
  | some (.nx, e1, M1) => b e1 M1
  | o => o
theorem rss_nil : RSs X [] nxS := by
  refine pss_weak pss_nil fun D σ H q => ?_
  obtain ⟨w, sl, fl, sl', M', rfl, ok, er, hm, f⟩ := q
  cases hm
  exact f w rfl ok (Ext.refl w) σ er
theorem seqS_ok {D : Ends} {ma mb : SM} {u : TS} (hu : ∀ D σ H, tS K W mb D σ H → u D σ H) {σ : L2.St} {H : Hp} (q : tS K W (seqS ma mb) D σ H) : tS K W ma { D with nx := u D } σ H := by
  obtain ⟨w, sl, fl, sl', M', rfl, ok, er, hm, f⟩ := q
  unfold seqS at hm
  split at hm
  · rename_i e1 M1 h1
    refine ⟨w, sl, .nx, e1, M1, rfl, ok, er, h1, fun w1 hM1 ok1 x1 σ1 er1 => ?_⟩
    exact hu _ _ _ ⟨w1, e1, fl, sl', M', rfl, ok1, er1, by rw [hM1]; exact hm, fun w2 hM2 ok2 x2 => f w2 hM2 ok2 (x1.trans x2)⟩
  · rename_i h1
    refine ⟨w, sl, fl, sl', M', rfl, ok, er, hm, fun w1 hM1 ok1 x1 => ?_⟩
    have q := f w1 hM1 ok1 x1
    cases fl with
    | nx => exact absurd hm (h1 _ _)
    | _ => exact q
theorem rss_cons {st : Stmt} {rest : List Stmt} {ma mb : SM} (h1 : RS X st ma) (h2 : RSs X rest mb) : RSs X (st :: rest) (seqS ma mb) :=
  pss_weak (pss_cons h1 h2) fun D σ H q => seqS_ok (fun _ _ _ z => z) q
theorem rss_one {st : Stmt} {m : SM} (h1 : RS X st m) : RSs X [st] m := pss_one h1
def bkS : SM := fun e M => some (.bk, e, M)
def ctS : SM := fun e M => some (.ct, e, M)
theorem rs_pass {pos : Pos} : RS X (.Pass pos) nxS := by
  refine ps_weak ps_pass fun D σ H q => ?_
  obtain ⟨w, sl, fl, sl', M', rfl, ok, er, hm, f⟩ := q
  cases hm
  exact f w rfl ok (Ext.refl w) σ er
theorem rs_break {pos : Pos} : RS X (.Break pos) bkS := by
  refine ps_weak ps_break fun D σ H q => ?_
  obtain ⟨w, sl, fl, sl', M', rfl, ok, er, hm, f⟩ := q
  cases hm
  exact f w rfl ok (Ext.refl w) σ er
theorem rs_continue {pos : Pos} : RS X (.Continue pos) ctS := by
  refine ps_weak ps_continue fun D σ H q => ?_
  obtain ⟨w, sl, fl, sl', M', rfl, ok, er, hm, f⟩ := q
  cases hm
  exact f w rfl ok (Ext.refl w) σ er
def exS (m : EM) : SM := fun e M => thn1 (m e M) fun _ M1 => some (.nx, e, M1)
theorem rs_expr {e : Expr} {pos : Pos} {m : EM} (h : RE X e m) (hs : swapsWith e none pos.line X.env = pure false := by rfl) : RS X (.Expr e pos) (exS m) := by
  refine ps_weak (ps_expr h hs) fun D σ H q => ?_
  obtain ⟨w, sl, fl, sl', M', rfl, ok, er, hm, f⟩ := q
  obtain ⟨d, M1, h1, hm⟩ := thn1_eq hm
  cases hm
  exact ⟨w, sl, d, M', rfl, ok, er, h1, fun w1 v hM1 ok1 x1 r => f w1 hM1 ok1 x1 σ (er.mono x1)⟩
def rtS (m : EM) : SM := fun e M => thn1 (m e M) fun d M1 => some (.rt d, e, M1)
theorem rs_ret {e : Expr} {pos : Pos} {m : EM} (h : RE X e m) : RS X (.Return (some e) pos) (rtS m) := by
  refine ps_weak (ps_ret h) fun D σ H q => ?_
  obtain ⟨w, sl, fl, sl', M', rfl, ok, er, hm, f⟩ := q
  obtain ⟨d, M1, h1, hm⟩ := thn1_eq hm
  cases hm
  exact ⟨w, sl, d, M', rfl, ok, er, h1, fun w1 v hM1 ok1 x1 r => f w1 hM1 ok1 x1 v r⟩
theorem rs_retN {pos : Pos} : RS X (.Return none pos) (rtS (cE .non)) := by
  refine ps_weak ps_retN fun D σ H q => ?_
  obtain ⟨w, sl, fl, sl', M', rfl, ok, er, hm, f⟩ := q
  cases hm
  exact f w rfl ok (Ext.refl w) _ .non
def ifS (t : TM) (a b : SM) : SM := fun e M => thn1 (t e M) fun c M1 => if c = true then a e M1 else b e M1
theorem rs_if {c : Expr} {a b : List Stmt} {pos : Pos} {mc : TM} {ma mb : SM} (hc : RT X c mc) (ha : RSs X a ma) (hb : RSs X b mb) : RS X (.If c a b pos) (ifS mc ma mb) := by
  refine ps_weak (ps_if hc ha hb) fun D σ H q => ?_
  obtain ⟨w, sl, fl, sl', M', rfl, ok, er, hm, f⟩ := q
  obtain ⟨c, M1, h1, hm⟩ := thn1_eq hm
  refine ⟨w, sl, c, M1, rfl, ok, er, h1, fun w1 hM1 ok1 x1 => ?_⟩
  cases c with
  | true => exact ⟨w1, sl, fl, sl', M', rfl, ok1, er.mono x1, by rw [hM1]; exact hm, fun w2 h2 ok2 x2 => f w2 h2 ok2 (x1.trans x2)⟩
  | false => exact ⟨w1, sl, fl, sl', M', rfl, ok1, er.mono x1, by rw [hM1]; exact hm, fun w2 h2 ok2 x2 => f w2 h2 ok2 (x1.trans x2)⟩

/-! ### targets -/
abbrev GM := Dt → Sl → Mem → Option (Sl × Mem)
abbrev GsM := List Dt → Sl → Mem → Option (Sl × Mem)
def tG (K : PySem.W.Frag) (W : World) (g : GM) : TG := fun v σ H Q => ∃ w d e e' M', w.H = H ∧ Ok K W w ∧ Dv K W w v d ∧ EnvR K W w σ e ∧ g d e w.M = some (e', M') ∧
  ∀ w', w'.M = M' → Ok K W w' → Ext w w' → ∀ σ', EnvR K W w' σ' e' → Q σ' w'.H
def tGs (K : PySem.W.Frag) (W : World) (g : GsM) : TGs := fun vs σ H Q => ∃ w ds e e' M', w.H = H ∧ Ok K W w ∧ Dvs K W w vs ds ∧ EnvR K W w σ e ∧ g ds e w.M = some (e', M') ∧
  ∀ w', w'.M = M' → Ok K W w' → Ext w w' → ∀ σ', EnvR K W w' σ' e' → Q σ' w'.H
abbrev RG (X : Cx) (t : Expr) (g : GM) : Prop := PG X t (tG X.K X.w g)
abbrev RGs (X : Cx) (ts : List Expr) (g : GsM) : Prop := PGs X ts (tGs X.K X.w g)
theorem pg_weak {e : Expr} {t t' : TG} (h : PG X e t) (k : ∀ v σ H Q, t' v σ H Q → t v σ H Q) : PG X e t' := ⟨fun pins s σ H v u Q I r q => h.run pins s σ H v u Q I r (k v σ H Q q)⟩
theorem pgs_weak {es : List Expr} {t t' : TGs} (h : PGs X es t) (k : ∀ v σ H Q, t' v σ H Q → t v σ H Q) : PGs X es t' := ⟨fun pins s σ H v u Q I r q => h.run pins s σ H v u Q I r (k v σ H Q q)⟩
def nameG (i : Nat) : GM := fun d e M => some (e.set i (some d), M)
theorem rg_name {i : Nat} {x : Str} {pos : Pos} (hN : X.N.Nodup) (hi : X.N[i]? = some x := by rfl) (hx : Loc X.env.scope x := by first | exact Or.inl rfl | exact Or.inr rfl)
    (hf : X.fn x = true ∨ X.env.scope.names.lookup x = some .local := by first | exact .inl rfl | exact .inr rfl) : RG X (.Name x pos) (nameG i) := by
  refine pg_weak (pg_name hN hi hx hf) fun v σ H Q q => ?_
  obtain ⟨w, d, e, e', M', rfl, ok, r, er, hm, f⟩ := q
  cases hm
  exact f w rfl ok (Ext.refl w) _ (er.set r i)
def nilG : GsM := fun ds e M => match ds with
  | [] => some (e, M)
  | _ :: _ => none
def consG (g : GM) (r : GsM) : GsM := fun ds e M => match ds with
  | [] => none
  | d :: ds => match g d e M with
    | some (e1, M1) => r ds e1 M1
    | none => none
theorem rgs_nil : RGs X [] nilG := by
  refine pgs_weak pgs_nil fun vs σ H Q q => ?_
  obtain ⟨w, ds, e, e', M', rfl, ok, r, er, hm, f⟩ := q
  cases r with
  | nil =>
    cases hm
    exact ⟨rfl, f w rfl ok (Ext.refl w) _ er⟩
  | cons _ _ => cases hm
theorem rgs_cons {t : Expr} {ts : List Expr} {g : GM} {gr : GsM} (h1 : RG X t g) (h2 : RGs X ts gr) (hs : (assignEach (t :: ts) X.env).map (·.2) = assign t X.env :: (assignEach ts X.env).map (·.2) := by rfl) : RGs X (t :: ts) (consG g gr) := by
  refine pgs_weak (pgs_cons h1 h2 hs) fun vs σ H Q q => ?_
  obtain ⟨w, ds, e, e', M', rfl, ok, r, er, hm, f⟩ := q
  cases r with
  | nil => cases hm
  | @cons v vs d ds r1 r2 =>
    simp only [consG] at hm
    split at hm
    · rename_i e1 M1 hg
      refine ⟨v, vs, rfl, w, d, e, e1, M1, rfl, ok, r1, er, hg, fun w1 hM1 ok1 x1 σ1 er1 => ?_⟩
      exact ⟨w1, ds, e1, e', M', rfl, ok1, r2.mono x1, er1, by rw [hM1]; exact hm, fun w2 hM2 ok2 x2 => f w2 hM2 ok2 (x1.trans x2)⟩
    · cases hm
def tupG (n : Nat) (g : GsM) : GM := fun d e M => match d with
  | .tup ds => if ds.length = n then g ds e M else none
  | _ => none
theorem rg_tup {es : List Expr} {k n : Nat} {pos : Pos} {g : GsM} (hc : X.calm = true) (h : RGs X es g) (hn : (assignEach es X.env).length = n := by rfl) (hst : (assignEach es X.env).findIdx? (·.1) = none := by rfl) : RG X (.Tuple es k pos) (tupG n g) := by
  refine pg_weak (pg_tup hc h hn hst) fun v σ H Q q => ?_
  obtain ⟨w, d, e, e', M', rfl, ok, r, er, hm, f⟩ := q
  cases r with
  | @tup a xs ds h1 h2 =>
    simp only [tupG] at hm
    split at hm
    · rename_i hl
      exact ⟨a, xs, rfl, h1, by rw [h2.length]; exact hl, w, ds, e, e', M', rfl, ok, h2, er, hm, f⟩
    · cases hm
  | _ => simp [tupG] at hm
def asgS (m : EM) (g : GM) : SM := fun e M => thn1 (m e M) fun d M1 => match g d e M1 with
  | some (e1, M2) => some (.nx, e1, M2)
  | none => none
theorem asgS_ok {m : EM} {g : GM} {D : Ends} {σ : L2.St} {H : Hp} (q : tS K W (asgS m g) D σ H) : tAsg (tE K W m) (tG K W g) D σ H := by
  obtain ⟨w, sl, fl, sl', M', rfl, ok, er, hm, f⟩ := q
  obtain ⟨d, M1, h1, hm⟩ := thn1_eq hm
  split at hm
  · rename_i e1 M2 hg
    cases hm
    refine ⟨w, sl, d, M1, rfl, ok, er, h1, fun w1 v hM1 ok1 x1 r => ?_⟩
    exact ⟨w1, d, sl, sl', M', rfl, ok1, r, er.mono x1, by rw [hM1]; exact hg, fun w2 hM2 ok2 x2 => f w2 hM2 ok2 (x1.trans x2)⟩
  · cases hm
theorem rs_asg {t e : Expr} {pos : Pos} {m : EM} {g : GM} (he : RE X e m) (hg : RG X t g) (hs : swapsWithSole [t] e pos.line X.env = pure false := by rfl) (hw : swappedStores [t] e X.env = pure none := by rfl)
    (h1 : (assignEach [t] X.env).map (·.2) = [assign t X.env] := by rfl) : RS X (.Assign [t] e pos) (asgS m g) := ps_weak (ps_asg he hg hs hw h1) fun D σ H q => asgS_ok q
def setS (i : Nat) (m : EM) : SM := fun e M => thn1 (m e M) fun d M1 => some (.nx, e.set i (some d), M1)
theorem rs_set {i : Nat} {x : Str} {e : Expr} {m : EM} {pos pos' : Pos} (hN : X.N.Nodup) (he : RE X e m) (hi : X.N[i]? = some x := by rfl) (hx : Loc X.env.scope x := by first | exact Or.inl rfl | exact Or.inr rfl)
    (hs : swapsWith e (some (.Name x pos')) pos.line X.env = pure false := by rfl) (hf : X.fn x = true ∨ X.env.scope.names.lookup x = some .local := by first | exact .inl rfl | exact .inr rfl) :
    RS X (.Assign [.Name x pos'] e pos) (setS i m) := by
  refine ps_weak (ps_set hN hi hx he hs hf) fun D σ H q => ?_
  obtain ⟨w, sl, fl, sl', M', rfl, ok, er, hm, f⟩ := q
  obtain ⟨d, M1, h1, hm⟩ := thn1_eq hm
  cases hm
  exact ⟨w, sl, d, M', rfl, ok, er, h1, fun w1 v hM1 ok1 x1 r => f w1 hM1 ok1 x1 _ ((er.mono x1).set r i)⟩
end

/-! ### defs -/
def body (n : Nat) (m : SM) : FM := fun ds M => match m (ds.map some ++ List.replicate (n - ds.length) none) M with
  | some (.rt d, _, M') => some (d, M')
  | some (.nx, _, M') => some (.non, M')
  | _ => none
/-- a call's end: the cells that were made within are given up -/
noncomputable def cutF (F : FM) : FM := fun ds M => match F ds M with
  | none => none
  | some (d, M') => open Classical in if Cl M.length d ∧ (∀ (i : Nat) (c : Dt), i < M.length → M'[i]? = some (some c) → M[i]? = some (some c) ∨ Cl M.length c) then some (d, M'.take M.length) else none
def spF (K : PySem.W.Frag) (W : World) (n : Nat) (F : FM) : Sp := fun vs H Q _ => ∃ w ds d M', w.H = H ∧ Ok K W w ∧ Dvs K W w vs ds ∧ ds.length = n ∧ F ds w.M = some (d, M') ∧ Fin1 K W w d M' Q
theorem spF_cut {K : PySem.W.Frag} {W : World} {n : Nat} {F : FM} {vs : List V} {H : Hp} {Q : VK} {E : XK} (h : spF K W n (cutF F) vs H Q E) : spF K W n F vs H Q E := by
  obtain ⟨w, ds, d, M', rfl, ok, r, hl, hm, f⟩ := h
  unfold cutF at hm
  split at hm
  · cases hm
  · rename_i d1 M1 h1
    split at hm
    · rename_i hc
      cases hm
      refine ⟨w, ds, d, M1, rfl, ok, r, hl, h1, fun w1 v hM1 ok1 x1 rv => ?_⟩
      refine f (w1.cut w.M.length) v ?_ (ok.cut ok1 x1 ?_) (Ext.cut ok x1) (rv.cut _ _ hc.1)
      · show w1.M.take _ = _
        rw [hM1]
      · intro i c hi e
        exact hc.2 i c hi (by rw [← hM1]; exact e)
    · cases hm
section
variable {P : Program} {W : World} {K : PySem.W.Frag} {mg : Str → Option Value} {base : Heap}
theorem envR_start {w : Ws} {N : List Str} {vs : List V} {ds : List Dt} (r : Dvs K W w vs ds) : EnvR K W w (L2.start N vs) (ds.map some ++ List.replicate (N.length - ds.length) none) := by
  refine ⟨by simp [L2.start, r.length], fun i d h => ?_⟩
  by_cases hi : i < ds.length
  · rw [List.getElem?_append_left (by simpa using hi), List.getElem?_map] at h
    cases e : ds[i]? with
    | none => rw [e] at h; cases h
    | some d' =>
      rw [e] at h
      cases h
      obtain ⟨v, h1, h2⟩ := r.get e
      refine ⟨v, ?_, h2⟩
      unfold L2.start
      rw [List.getElem?_append_left (by simpa [r.length] using hi), List.getElem?_map, h1]
      rfl
  · rw [List.getElem?_append_right (by simpa using hi)] at h
    rw [List.getElem?_replicate] at h
    split at h <;> cases h
theorem fn_ok {x qual : Str} {st : Stmt} {f : Addr} {fd : FuncData} {N ps : List Str} {k : Nat} {m : SM} (F : Fun K x qual st f fd) (S : FnScope N ps (defScope st))
    (hb : ∀ (cdv : Value) (A : Around) (outer : List Env) (s : Shared) (H : Hp) (E : XK), Room k (A.deeper (envOfC qual (defScope st) s.heap.objs.size f cdv)) →
      RSs (cxOf CX0 P W K mg base N qual (defScope st) f cdv A outer s H E).nox (defBody st) m) : FnOk P W K mg base CX0 (k + 1) f fd ps (spF K W ps.length (body N.length m)) := by
  refine F.ok S (fun vs H Q E h => ?_) (fun cdv A outer s H vs Q E hr h => ?_)
  · obtain ⟨w, ds, d, M', _, _, r, hl, _⟩ := h
    rw [r.length, hl]
  · refine ⟨_, hb cdv A outer s H E hr, ?_⟩
    obtain ⟨w, ds, d, M', rfl, ok, r, hl, hm, f⟩ := h
    unfold body at hm
    split at hm
    · rename_i d1 e1 M1 h1
      cases hm
      refine ⟨w, _, _, _, _, rfl, ok, envR_start r, h1, fun w1 hM1 ok1 x1 v rv => f w1 v hM1 ok1 x1 rv⟩
    · rename_i e1 M1 h1
      cases hm
      refine ⟨w, _, _, _, _, rfl, ok, envR_start r, h1, fun w1 hM1 ok1 x1 σ1 _ => f w1 _ hM1 ok1 x1 .non⟩
    · cases hm
theorem FnOk.cut {k : Nat} {f : Addr} {fd : FuncData} {ps : List Str} {n : Nat} {F : FM} (h : FnOk P W K mg base CX0 k f fd ps (spF K W n F)) : FnOk P W K mg base CX0 k f fd ps (spF K W n (cutF F)) :=
  h.imp fun _ _ _ _ => spF_cut
end

/-! ### calls -/
section
variable {X : Cx} {K : PySem.W.Frag} {W : World}
def callE (F : FM) (a : AM) : EM := fun e M => thn1 (a e M) fun ds M1 => F ds M1
theorem re_call {k n : Nat} {f : Addr} {fd : FuncData} {ps : List Str} {F : FM} {x : Str} {p pos : Pos} {e : Expr} {es : List Expr} {m : AM} (G : FnOk X.prog X.w X.K X.mg X.base CX0 k f fd ps (spF X.K X.w n F)) (hr : Room k X.A) (hg : Gl X x)
    (hm : X.mg x = some (.ref f)) (hk : PySem.W.keepIn X.K (.ref f) = true) (hb : Binds X.K fd ps []) (ha : RA X (e :: es) m) (hn : ∀ sl M ds M', m sl M = some (ds, M') → ds.length = n) (hdb : (x == ("__debug__" : Str)) = false := by decide)
    (he : starEach (e :: es) X.env = (false, eval e X.env) :: starEach es X.env := by rfl) (hpl : (backTo pos (starEach es X.env)).any (·.1) = false := by rfl) : RE X (.Call (.Name x p) (e :: es) [] pos) (callE F m) := by
  refine pe_weak (pe_call G hr hg hm hk hb .nil pass0 ha hdb he hpl) fun σ H Q q => ?_
  obtain ⟨w, sl, d, M', rfl, ok, er, hm, f⟩ := q
  obtain ⟨ds, M1, h1, hm⟩ := thn1_eq hm
  refine ⟨w, sl, ds, M1, rfl, ok, er, h1, fun w1 vs hM1 ok1 x1 r => ?_⟩
  refine ⟨w1, ds, d, M', rfl, ok1, ?_, hn _ _ _ _ h1, by rw [hM1]; exact hm, f.after x1⟩
  rw [List.append_nil]
  exact r
theorem re_call0 {k : Nat} {f : Addr} {fd : FuncData} {ps : List Str} {F : FM} {x : Str} {p pos : Pos} (G : FnOk X.prog X.w X.K X.mg X.base CX0 k f fd ps (spF X.K X.w 0 F)) (hr : Room k X.A) (hg : Gl X x)
    (hm : X.mg x = some (.ref f)) (hk : PySem.W.keepIn X.K (.ref f) = true) (hb : Binds X.K fd ps []) (hdb : (x == ("__debug__" : Str)) = false := by decide) : RE X (.Call (.Name x p) [] [] pos) (callE F nilA) := by
  refine pe_weak (pe_call0 G hr hg hm hk hb .nil pass0 hdb) fun σ H Q q => ?_
  obtain ⟨w, sl, d, M', rfl, ok, er, hm, f⟩ := q
  obtain ⟨ds, M1, h1, hm⟩ := thn1_eq hm
  cases h1
  exact ⟨w, [], d, M', rfl, ok, .nil, rfl, hm, f⟩
theorem nilA_len {sl : Sl} {M : Mem} {ds : List Dt} {M' : Mem} (h : nilA sl M = some (ds, M')) : ds.length = 0 := by cases h; rfl
theorem consA_len {a : EM} {r : AM} {n : Nat} (hr : ∀ sl M ds M', r sl M = some (ds, M') → ds.length = n) : ∀ sl M ds M', consA a r sl M = some (ds, M') → ds.length = n + 1 := fun sl M ds M' h => by
  obtain ⟨x, M1, h1, h⟩ := thn1_eq h
  obtain ⟨xs, M2, h2, h⟩ := thn1_eq h
  cases h
  exact congrArg (· + 1) (hr _ _ _ _ h2)
/-- a built-in by its name -/
def C1Ok (K : PySem.W.Frag) (W : World) (r : List V → Hp → VK → Prop) (g : FM) : Prop :=
  ∀ (w : Ws) (xs : List V) (ds : List Dt) (d : Dt) (M' : Mem) (Q : VK), Ok K W w → Dvs K W w xs ds → g ds w.M = some (d, M') → Fin1 K W w d M' Q → r xs w.H Q
theorem callB_ok {r : List V → Hp → VK → Prop} {g : FM} {m : AM} (hg : C1Ok K W r g) (σ : L2.St) (H : Hp) (Q : VK) (q : tE K W (callE g m) σ H Q) : tCB r (tA K W m) σ H Q := by
  obtain ⟨w, sl, d, M', rfl, ok, er, hm, f⟩ := q
  obtain ⟨ds, M1, h1, hm⟩ := thn1_eq hm
  exact ⟨w, sl, ds, M1, rfl, ok, er, h1, fun w1 vs hM1 ok1 x1 r => hg w1 vs ds d M' Q ok1 r (by rw [hM1]; exact hm) (f.after x1)⟩
theorem re_callB {x : Str} {id : String} {r : List V → Hp → VK → Prop} {g : FM} {m : AM} {p pos : Pos} {e : Expr} {es : List Expr} (hc : CallR X (.builtin id) r) (hgk : C1Ok X.K X.w r g) (hg : Gl X x) (hm : X.mg x = none) (hv : bootBuiltins x = some (.builtin id))
    (ha : RA X (e :: es) m) (hn : x ≠ "__name__" := by decide) (hdb : (x == ("__debug__" : Str)) = false := by decide) (he : starEach (e :: es) X.env = (false, eval e X.env) :: starEach es X.env := by rfl) (hpl : (backTo pos (starEach es X.env)).any (·.1) = false := by rfl) :
    RE X (.Call (.Name x p) (e :: es) [] pos) (callE g m) := pe_weak (pe_callB hc hg hm hv ha hn hdb he hpl) (callB_ok hgk)
theorem re_callTy {x : Str} {T : String} {r : List V → Hp → VK → Prop} {g : FM} {m : AM} {p pos : Pos} {e : Expr} {es : List Expr} (hc : CallR X (.type T) r) (hgk : C1Ok X.K X.w r g) (hg : Gl X x) (hm : X.mg x = none) (hv : bootBuiltins x = some (.type T))
    (ha : RA X (e :: es) m) (hn : x ≠ "__name__" := by decide) (hdb : (x == ("__debug__" : Str)) = false := by decide) (he : starEach (e :: es) X.env = (false, eval e X.env) :: starEach es X.env := by rfl) (hpl : (backTo pos (starEach es X.env)).any (·.1) = false := by rfl) :
    RE X (.Call (.Name x p) (e :: es) [] pos) (callE g m) := pe_weak (pe_callTy hc hg hm hv ha hn hdb he hpl) (callB_ok hgk)
end
end DL
/-! The data layer, part c: what is walked, for, while, list comprehensions. -/
namespace DL
open PySem PySem.Spec PyProof.Rows L2

/-- what is walked: the items; what must be so at each turn -/
structure Src where
  its : List Dt
  gd : Mem → Prop
abbrev IM := Sl → Mem → Option (Src × Mem)
def Yields (K : PySem.W.Frag) (W : World) (J : It) (src : Src) (w0 : Ws) : Prop := ∀ (i : Nat) (w : Ws), Ok K W w → Ext w0 w → src.gd w.M →
  (∀ d, src.its[i]? = some d → J.go i w.H ∧ ∀ x H', J.yld i w.H x H' → ∃ w', w'.H = H' ∧ w'.M = w.M ∧ Ok K W w' ∧ Ext w w' ∧ Dv K W w' x d) ∧ (src.its.length ≤ i → J.stop i w.H)
def tI (K : PySem.W.Frag) (W : World) (m : IM) : TI := fun σ H R => ∃ w e src M', w.H = H ∧ Ok K W w ∧ EnvR K W w σ e ∧ m e w.M = some (src, M') ∧
  ∀ w' J, w'.M = M' → Ok K W w' → Ext w w' → Yields K W J src w' → R J w'.H
abbrev RI (X : Cx) (tg iter : Expr) (m : IM) : Prop := PI X tg iter (tI X.K X.w m)
theorem pi_weak {X : Cx} {tg iter : Expr} {t t' : TI} (h : PI X tg iter t) (k : ∀ σ H R, t' σ H R → t σ H R) : PI X tg iter t' := ⟨fun pins s σ H R I q => h.run pins s σ H R I (k σ H R q)⟩
theorem pi_or {X : Cx} {tg iter : Expr} {t t' : TI} (h : PI X tg iter t) (h' : PI X tg iter t') : PI X tg iter (fun σ H R => t σ H R ∨ t' σ H R) :=
  ⟨fun pins s σ H R I q => q.elim (h.run pins s σ H R I) (h'.run pins s σ H R I)⟩

/-- the items of a list, a tuple, a text -/
def itemsOf (M : Mem) : Dt → Option Src
  | .tup ds => some ⟨ds, fun _ => True⟩
  | .lst ds => some ⟨ds, fun _ => True⟩
  | .lsk ds => some ⟨ds, fun _ => True⟩
  | .ref i => match M[i]? with
    | some (some (.lst ds)) => some ⟨ds, fun M => M[i]? = some (some (.lst ds))⟩
    | _ => none
  | .str x => some ⟨x.cps.toList.map fun c => .str ⟨#[c]⟩, fun _ => True⟩
  | _ => none
def seqI (m : EM) : IM := fun e M => thn1 (m e M) fun d M1 => pur (itemsOf M1 d) M1
section
variable {X : Cx} {K : PySem.W.Frag} {W : World}
theorem yields_list {w0 : Ws} {a : Addr} {ds : List Dt} {gd : Mem → Prop} (h : ∀ w, Ok K W w → Ext w0 w → gd w.M → ∃ xs, SqL K w.H a xs ∧ Dvs K W w xs ds) : Yields K W (Itl K a) ⟨ds, gd⟩ w0 := by
  intro i w ok x hg
  obtain ⟨xs, hs, r⟩ := h w ok x hg
  refine ⟨fun d hd => ?_, fun hl => ⟨xs, hs, by rw [r.length]; exact hl⟩⟩
  obtain ⟨v, hv, rv⟩ := r.get hd
  refine ⟨⟨xs, v, hs, hv⟩, fun y H' hy => ?_⟩
  obtain ⟨rfl, hy⟩ := hy
  have e := hy xs hs
  rw [hv] at e; cases e
  exact ⟨w, rfl, rfl, ok, Ext.refl w, rv⟩
theorem yields_tup {w0 : Ws} {a : Addr} {ds : List Dt} {gd : Mem → Prop} (h : ∀ w, Ok K W w → Ext w0 w → gd w.M → ∃ xs, SqT K w.H a xs ∧ Dvs K W w xs ds) : Yields K W (Itt K a) ⟨ds, gd⟩ w0 := by
  intro i w ok x hg
  obtain ⟨xs, hs, r⟩ := h w ok x hg
  refine ⟨fun d hd => ?_, fun hl => ⟨xs, hs, by rw [r.length]; exact hl⟩⟩
  obtain ⟨v, hv, rv⟩ := r.get hd
  refine ⟨⟨xs, v, hs, hv⟩, fun y H' hy => ?_⟩
  obtain ⟨rfl, hy⟩ := hy
  have e := hy xs hs
  rw [hv] at e; cases e
  exact ⟨w, rfl, rfl, ok, Ext.refl w, rv⟩
theorem yields_str {w0 : Ws} {y : Str} : Yields K W (Its y) ⟨y.cps.toList.map fun c => .str ⟨#[c]⟩, fun _ => True⟩ w0 := by
  intro i w ok x hg
  refine ⟨fun d hd => ?_, fun hl => ?_⟩
  · rw [List.getElem?_map] at hd
    cases e : y.cps.toList[i]? with
    | none => rw [e] at hd; cases hd
    | some c =>
      rw [e] at hd
      cases hd
      have hi : i < y.cps.toList.length := (List.getElem?_eq_some_iff.mp e).1
      refine ⟨by show i < y.cps.size; simpa using hi, fun v H' hv => ?_⟩
      obtain ⟨rfl, c', e', rfl⟩ := hv
      have : c' = c := by
        rw [Array.getElem?_toList] at e
        rw [e] at e'
        exact (Option.some.inj e').symm
      subst this
      exact ⟨w, rfl, rfl, ok, Ext.refl w, .str _⟩
  · show y.cps.size ≤ i
    simpa using hl
theorem yields_range {w0 : Ws} {lo : Int} {n : Nat} : Yields K W (Itr lo n) ⟨(List.range n).map fun i => .int (lo + (i : Nat)), fun _ => True⟩ w0 := by
  intro i w ok x hg
  refine ⟨fun d hd => ?_, fun hl => ?_⟩
  · rw [List.getElem?_map] at hd
    by_cases hi : i < n
    · rw [List.getElem?_range hi] at hd
      cases hd
      refine ⟨hi, fun v H' hv => ?_⟩
      obtain ⟨rfl, rfl⟩ := hv
      exact ⟨w, rfl, rfl, ok, Ext.refl w, .int _⟩
    · rw [List.getElem?_eq_none (by simpa using hi)] at hd
      cases hd
  · show n ≤ i
    simpa using hl
/-- a list, a tuple, a text, walked -/
theorem ri_seq {tg e : Expr} {m : EM} (h : RE X e m) : RI X tg e (seqI m) := by
  refine pi_weak (pi_or (pi_list (tg := tg) h) (pi_or (pi_tup (tg := tg) h) (pi_str h))) fun σ H R q => ?_
  obtain ⟨w, sl, src, M', rfl, ok, er, hm, f⟩ := q
  obtain ⟨d, M1, h1, hm⟩ := thn1_eq hm
  obtain ⟨rfl, hm'⟩ := pur_eq hm
  have go : ∀ {t : TE}, (∀ w1 v, w1.M = M' → Ok X.K X.w w1 → Ext w w1 → Dv X.K X.w w1 v d → True) → True := fun _ => trivial
  cases d with
  | tup ds =>
    simp only [itemsOf, Option.some.injEq] at hm'
    subst hm'
    refine .inr (.inl ⟨w, sl, _, _, rfl, ok, er, h1, fun w1 v hM1 ok1 x1 r => ?_⟩)
    cases r with
    | @tup a xs _ hs rs =>
      exact ⟨_, rfl, ⟨_, hs⟩, f w1 _ hM1 ok1 x1 (yields_tup fun w2 ok2 x2 _ => ⟨xs, x2.sqT hs, rs.mono x2⟩)⟩
  | lst ds =>
    simp only [itemsOf, Option.some.injEq] at hm'
    subst hm'
    refine .inl ⟨w, sl, _, _, rfl, ok, er, h1, fun w1 v hM1 ok1 x1 r => ?_⟩
    cases r with
    | @lst a xs _ hs n rs =>
      exact ⟨_, rfl, ⟨_, SqL.of hs⟩, f w1 _ hM1 ok1 x1 (yields_list fun w2 ok2 x2 _ => ⟨xs, SqL.of (x2.frz _ _ hs n).1, rs.mono x2⟩)⟩
  | lsk ds =>
    simp only [itemsOf, Option.some.injEq] at hm'
    subst hm'
    refine .inl ⟨w, sl, _, _, rfl, ok, er, h1, fun w1 v hM1 ok1 x1 r => ?_⟩
    cases r with
    | @lstK a xs _ hs rs =>
      exact ⟨_, rfl, ⟨_, hs.sq⟩, f w1 _ hM1 ok1 x1 (yields_list fun w2 ok2 x2 _ => ⟨xs, (x2.imL hs).sq, rs.mono x2⟩)⟩
  | ref i =>
    simp only [itemsOf] at hm'
    split at hm'
    · rename_i ds hc
      simp only [Option.some.injEq] at hm'
      subst hm'
      refine .inl ⟨w, sl, _, _, rfl, ok, er, h1, fun w1 v hM1 ok1 x1 r => ?_⟩
      cases r with
      | @ref _ a hr =>
        obtain ⟨xs, e, q⟩ := ok1.cells _ _ _ hr (by rw [hM1]; exact hc)
        refine ⟨_, rfl, ⟨_, SqL.of e⟩, f w1 _ hM1 ok1 x1 (yields_list fun w2 ok2 x2 hg => ?_)⟩
        obtain ⟨xs2, e2, q2⟩ := ok2.cells _ _ _ (x2.get hr) hg
        exact ⟨xs2, SqL.of e2, q2⟩
    · cases hm'
  | str y =>
    simp only [itemsOf, Option.some.injEq] at hm'
    subst hm'
    refine .inr (.inr ⟨w, sl, _, _, rfl, ok, er, h1, fun w1 v hM1 ok1 x1 r => ?_⟩)
    cases r
    exact ⟨_, rfl, f w1 _ hM1 ok1 x1 yields_str⟩
  | _ => simp [itemsOf] at hm'
/-- range(n), range(a, b) -/
def rngD : List Dt → Option Src
  | [.int j] => if -(2 ^ 62) ≤ j ∧ j < 2 ^ 62 then some ⟨(List.range j.toNat).map fun i => .int (0 + (i : Nat)), fun _ => True⟩ else none
  | [.int i, .int j] => if -(2 ^ 62) ≤ i ∧ i < 2 ^ 62 ∧ -(2 ^ 62) ≤ j ∧ j < 2 ^ 62 then some ⟨(List.range (j - i).toNat).map fun k => .int (i + (k : Nat)), fun _ => True⟩ else none
  | _ => none
def rngI (m : AM) : IM := fun e M => thn1 (m e M) fun ds M1 => pur (rngD ds) M1
theorem ri_range1 {tg a : Expr} {p pos : Pos} {m : AM} (hg : Gl X "range") (hm : X.mg "range" = none) (ha : RA X [a] m) (hn : ∀ sl M ds M', m sl M = some (ds, M') → ds.length = 1) (hs : starEach [a] X.env = [(false, eval a X.env)] := by rfl) : RI X tg (.Call (.Name "range" p) [a] [] pos) (rngI m) := by
  refine pi_weak (pi_range1 hg hm ha hs) fun σ H R q => ?_
  obtain ⟨w, sl, src, M', rfl, ok, er, hm, f⟩ := q
  obtain ⟨ds, M1, h1, hm⟩ := thn1_eq hm
  obtain ⟨rfl, hm'⟩ := pur_eq hm
  have hl := hn _ _ _ _ h1
  refine ⟨w, sl, _, _, rfl, ok, er, h1, fun w1 v hM1 ok1 x1 r => ?_⟩
  match ds, hl with
  | [d], _ =>
    cases d with
    | int j =>
      simp only [rngD] at hm'
      split at hm'
      · rename_i hj
        simp only [Option.some.injEq] at hm'
        subst hm'
        cases r with
        | cons r1 r2 =>
          cases r1
          cases r2
          exact ⟨j, rfl, hj.1, hj.2, f w1 _ hM1 ok1 x1 yields_range⟩
      · cases hm'
    | _ => simp [rngD] at hm'
theorem ri_range2 {tg a b : Expr} {p pos : Pos} {m : AM} (hg : Gl X "range") (hm : X.mg "range" = none) (ha : RA X [a, b] m) (hn : ∀ sl M ds M', m sl M = some (ds, M') → ds.length = 2) (hs : starEach [a, b] X.env = [(false, eval a X.env), (false, eval b X.env)] := by rfl)
    (hs2 : starEach [b] X.env = [(false, eval b X.env)] := by rfl) : RI X tg (.Call (.Name "range" p) [a, b] [] pos) (rngI m) := by
  refine pi_weak (pi_range2 hg hm ha hs hs2) fun σ H R q => ?_
  obtain ⟨w, sl, src, M', rfl, ok, er, hm, f⟩ := q
  obtain ⟨ds, M1, h1, hm⟩ := thn1_eq hm
  obtain ⟨rfl, hm'⟩ := pur_eq hm
  have hl := hn _ _ _ _ h1
  refine ⟨w, sl, _, _, rfl, ok, er, h1, fun w1 v hM1 ok1 x1 r => ?_⟩
  match ds, hl with
  | [d, d2], _ =>
    cases d with
    | int i =>
      cases d2 with
      | int j =>
        simp only [rngD] at hm'
        split at hm'
        · rename_i hj
          simp only [Option.some.injEq] at hm'
          subst hm'
          cases r with
          | cons r1 r2 =>
            cases r1
            cases r2 with
            | cons r3 r4 =>
              cases r3
              cases r4
              exact ⟨i, j, rfl, hj, f w1 _ hM1 ok1 x1 yields_range⟩
        · cases hm'
      | _ => simp [rngD] at hm'
    | _ => simp [rngD] at hm'

/-! ### for -/
noncomputable def loopS (gd : Mem → Prop) (g : GM) (b : SM) : List Dt → Sl → Mem → Option (Fl × Sl × Mem)
  | [], e, M => open Classical in if gd M then some (.nx, e, M) else none
  | d :: ds, e, M => open Classical in if gd M then (match g d e M with
    | none => none
    | some (e1, M1) => match b e1 M1 with
      | none => none
      | some (.nx, e2, M2) => loopS gd g b ds e2 M2
      | some (.ct, e2, M2) => loopS gd g b ds e2 M2
      | some (.bk, e2, M2) => some (.nx, e2, M2)
      | some (.rt r, e2, M2) => some (.rt r, e2, M2)) else none
noncomputable def forS (it : IM) (g : GM) (b : SM) : SM := fun e M => thn1 (it e M) fun src M1 => loopS src.gd g b src.its e M1
theorem rs_for {tg iter : Expr} {sts : List Stmt} {pos : Pos} {mi : IM} {g : GM} {mb : SM} (hp : PassesOwn (model X.prog X.w) X.A X.env X.xe) (hc : X.calm = true) (hi : RI X tg iter mi) (hg : RG X tg g) (hb : RSs X sts mb)
    (hs : ∀ x, foldedSetIterable iter X.env x = pure x := by intro _; rfl) : RS X (.For tg iter sts [] pos) (forS mi g mb) := by
  refine ps_weak (ps_for hp hc hi hg hb hs) fun D σ H q => ?_
  obtain ⟨w, sl, fl, sl', M', rfl, ok, er, hm, f⟩ := q
  obtain ⟨src, M1, h1, hm⟩ := thn1_eq hm
  refine ⟨w, sl, src, M1, rfl, ok, er, h1, fun w1 J hM1 ok1 x1 y => ?_⟩
  refine ⟨fun i m σ H => m = src.its.length - i ∧ i ≤ src.its.length ∧ ∃ w2 e2, w2.H = H ∧ Ok X.K X.w w2 ∧ Ext w1 w2 ∧ EnvR X.K X.w w2 σ e2 ∧ loopS src.gd g mb (src.its.drop i) e2 w2.M = some (fl, sl', M'),
    ⟨src.its.length, by simp, Nat.zero_le _, w1, sl, rfl, ok1, Ext.refl w1, er.mono x1, by rw [hM1]; exact hm⟩, ?_⟩
  rintro i m σ2 H2 ⟨rfl, hil, w2, e2, rfl, ok2, x2, er2, hl⟩
  by_cases hlt : i < src.its.length
  · rw [List.drop_eq_getElem_cons hlt] at hl
    unfold loopS at hl
    split at hl
    · rename_i hgd
      obtain ⟨y1, _⟩ := y i w2 ok2 x2 hgd
      obtain ⟨hgo, hy⟩ := y1 _ (List.getElem?_eq_getElem hlt)
      refine .inr ⟨hgo, fun σ' H' => i + 1 ≤ src.its.length ∧ ∃ w3 e3, w3.H = H' ∧ Ok X.K X.w w3 ∧ Ext w1 w3 ∧ EnvR X.K X.w w3 σ' e3 ∧ loopS src.gd g mb (src.its.drop (i + 1)) e3 w3.M = some (fl, sl', M'),
        fun σ' H' ⟨h, r⟩ => ⟨src.its.length - (i + 1), by omega, rfl, h, r⟩, fun v H' hv => ?_⟩
      obtain ⟨w3, rfl, hM3, ok3, x3, rv⟩ := hy v H' hv
      split at hl
      · cases hl
      · rename_i e4 M4 hg4
        refine ⟨w3, _, e2, e4, M4, rfl, ok3, rv, er2.mono x3, by rw [hM3]; exact hg4, fun w5 hM5 ok5 x5 σ5 er5 => ?_⟩
        have x15 := (x2.trans x3).trans x5
        split at hl
        · cases hl
        · rename_i e6 M6 hb6
          refine ⟨w5, e4, .nx, e6, M6, rfl, ok5, er5, by rw [hM5]; exact hb6, fun w7 hM7 ok7 x7 σ7 er7 => ?_⟩
          exact ⟨hlt, w7, e6, rfl, ok7, x15.trans x7, er7, by rw [hM7]; exact hl⟩
        · rename_i e6 M6 hb6
          refine ⟨w5, e4, .ct, e6, M6, rfl, ok5, er5, by rw [hM5]; exact hb6, fun w7 hM7 ok7 x7 σ7 er7 => ?_⟩
          exact ⟨hlt, w7, e6, rfl, ok7, x15.trans x7, er7, by rw [hM7]; exact hl⟩
        · rename_i e6 M6 hb6
          cases hl
          refine ⟨w5, e4, .bk, sl', M', rfl, ok5, er5, by rw [hM5]; exact hb6, fun w7 hM7 ok7 x7 σ7 er7 => ?_⟩
          exact f w7 hM7 ok7 (x1.trans (x15.trans x7)) σ7 er7
        · rename_i r e6 M6 hb6
          cases hl
          refine ⟨w5, e4, .rt r, sl', M', rfl, ok5, er5, by rw [hM5]; exact hb6, fun w7 hM7 ok7 x7 v rv => ?_⟩
          exact f w7 hM7 ok7 (x1.trans (x15.trans x7)) v rv
    · cases hl
  · have e : i = src.its.length := by omega
    rw [List.drop_eq_nil_of_le (by omega)] at hl
    unfold loopS at hl
    split at hl
    · rename_i hgd
      cases hl
      obtain ⟨_, y2⟩ := y i w2 ok2 x2 hgd
      exact .inl ⟨y2 (by omega), f w2 rfl ok2 (x1.trans x2) σ2 er2⟩
    · cases hl

/-! ### while -/
def whN (c : TM) (b : SM) : Nat → SM
  | 0 => fun _ _ => none
  | n + 1 => fun e M => thn1 (c e M) fun t M1 => if t = true then (match b e M1 with
    | none => none
    | some (.nx, e2, M2) => whN c b n e2 M2
    | some (.ct, e2, M2) => whN c b n e2 M2
    | some (.bk, e2, M2) => some (.nx, e2, M2)
    | some (.rt r, e2, M2) => some (.rt r, e2, M2)) else some (.nx, e, M1)
theorem whN_mono {c : TM} {b : SM} : ∀ {n k : Nat} {e : Sl} {M : Mem} {r : Fl × Sl × Mem}, whN c b n e M = some r → n ≤ k → whN c b k e M = some r
  | 0, _, _, _, _, h, _ => by cases h
  | n + 1, 0, _, _, _, _, h => absurd h (by omega)
  | n + 1, k + 1, e, M, r, h, hk => by
    unfold whN at h ⊢
    obtain ⟨t, M1, h1, h⟩ := thn1_eq h
    rw [h1, thn1_some]
    cases t with
    | false => exact h
    | true =>
      simp only [if_true] at h ⊢
      cases hb : b e M1 with
      | none => rw [hb] at h; cases h
      | some p =>
        obtain ⟨f, e2, M2⟩ := p
        rw [hb] at h
        cases f with
        | nx => exact whN_mono h (by omega)
        | ct => exact whN_mono h (by omega)
        | bk => exact h
        | rt d => exact h
open Classical in
noncomputable def whS (c : TM) (b : SM) : SM := fun e M => if h : ∃ n r, whN c b n e M = some r then whN c b h.choose e M else none
theorem whS_of {c : TM} {b : SM} {n : Nat} {e : Sl} {M : Mem} {r : Fl × Sl × Mem} (h : whN c b n e M = some r) : whS c b e M = some r := by
  have hx : ∃ n r, whN c b n e M = some r := ⟨n, r, h⟩
  unfold whS
  rw [dif_pos hx]
  obtain ⟨r', h'⟩ := hx.choose_spec
  rw [h']
  have a := whN_mono h (Nat.le_max_left n hx.choose)
  have b := whN_mono h' (Nat.le_max_right n hx.choose)
  rw [a] at b
  exact b.symm
theorem whS_n {c : TM} {b : SM} {e : Sl} {M : Mem} {r : Fl × Sl × Mem} (h : whS c b e M = some r) : ∃ n, whN c b n e M = some r := by
  unfold whS at h
  split at h
  · exact ⟨_, h⟩
  · cases h
theorem rs_while {c : Expr} {sts : List Stmt} {pos : Pos} {mc : TM} {mb : SM} (hp : PassesOwn (model X.prog X.w) X.A X.env X.xe) (hc : RT X c mc) (hb : RSs X sts mb) : RS X (.While c sts [] pos) (whS mc mb) := by
  refine ps_weak (ps_while hp hc hb) fun D σ H q => ?_
  obtain ⟨w, sl, fl, sl', M', rfl, ok, er, hm, f⟩ := q
  obtain ⟨n, hm⟩ := whS_n hm
  refine ⟨fun m σ H => ∃ w2 e2, w2.H = H ∧ Ok X.K X.w w2 ∧ Ext w w2 ∧ EnvR X.K X.w w2 σ e2 ∧ whN mc mb m e2 w2.M = some (fl, sl', M'), ⟨n, w, sl, rfl, ok, Ext.refl w, er, hm⟩, ?_⟩
  rintro m σ2 H2 ⟨w2, e2, rfl, ok2, x2, er2, hw⟩
  cases m with
  | zero => cases hw
  | succ m =>
    unfold whN at hw
    obtain ⟨t, M3, h3, hw⟩ := thn1_eq hw
    refine ⟨w2, e2, t, M3, rfl, ok2, er2, h3, fun w3 hM3 ok3 x3 => ?_⟩
    cases t with
    | false =>
      simp only [Bool.false_eq_true, if_false] at hw ⊢
      cases hw
      exact f w3 hM3 ok3 (x2.trans x3) σ2 (er2.mono x3)
    | true =>
      simp only [if_true] at hw ⊢
      refine ⟨fun σ' H' => ∃ w4 e4, w4.H = H' ∧ Ok X.K X.w w4 ∧ Ext w w4 ∧ EnvR X.K X.w w4 σ' e4 ∧ whN mc mb m e4 w4.M = some (fl, sl', M'), fun σ' H' h => ⟨m, Nat.lt_succ_self m, h⟩, ?_⟩
      have x13 := x2.trans x3
      split at hw
      · cases hw
      · rename_i e6 M6 hb6
        refine ⟨w3, e2, .nx, e6, M6, rfl, ok3, er2.mono x3, by rw [hM3]; exact hb6, fun w7 hM7 ok7 x7 σ7 er7 => ?_⟩
        exact ⟨w7, e6, rfl, ok7, x13.trans x7, er7, by rw [hM7]; exact hw⟩
      · rename_i e6 M6 hb6
        refine ⟨w3, e2, .ct, e6, M6, rfl, ok3, er2.mono x3, by rw [hM3]; exact hb6, fun w7 hM7 ok7 x7 σ7 er7 => ?_⟩
        exact ⟨w7, e6, rfl, ok7, x13.trans x7, er7, by rw [hM7]; exact hw⟩
      · rename_i e6 M6 hb6
        cases hw
        refine ⟨w3, e2, .bk, sl', M', rfl, ok3, er2.mono x3, by rw [hM3]; exact hb6, fun w7 hM7 ok7 x7 σ7 er7 => ?_⟩
        exact f w7 hM7 ok7 (x13.trans x7) σ7 er7
      · rename_i r e6 M6 hb6
        cases hw
        refine ⟨w3, e2, .rt r, sl', M', rfl, ok3, er2.mono x3, by rw [hM3]; exact hb6, fun w7 hM7 ok7 x7 v rv => ?_⟩
        exact f w7 hM7 ok7 (x13.trans x7) v rv

/-! ### list comprehensions -/
/-- a comprehension's target: a name, names -/
inductive Tgt where
  | one (i : Nat) | many (is : List Nat)
def Tgt.slots : Tgt → List Nat
  | .one i => [i]
  | .many is => is
def gNames : List Nat → TGs
  | [] => gNil
  | i :: is => gCons (gName i) (gNames is)
def Tgt.g (K : PySem.W.Frag) : Tgt → TG
  | .one i => gName i
  | .many is => gTup K is.length (gNames is)
def setAll : List Nat → List Dt → Sl → Sl
  | i :: is, d :: ds, e => setAll is ds (e.set i (some d))
  | _, _, e => e
def Tgt.m : Tgt → Dt → Sl → Option Sl
  | .one i, d, e => some (e.set i (some d))
  | .many is, .tup ds, e => if ds.length = is.length then some (setAll is ds e) else none
  | .many _, _, _ => none
def wipeS (e : Sl) : List Nat → Sl
  | [] => e
  | v :: vs => (wipeS e vs).set v none
theorem wipe_get (σ : L2.St) : ∀ (vs : List Nat) (j : Nat), (wipe σ vs)[j]? = if j ∈ vs then (if j < σ.length then some none else none) else σ[j]?
  | [], j => by simp [wipe]
  | v :: vs, j => by
    unfold wipe
    rw [List.getElem?_set, wipe_get σ vs j, wipe_length]
    by_cases h : v = j
    · subst h; simp
    · have h' : ¬ j = v := fun e => h e.symm
      simp [h, h']
theorem wipeS_get (σ : Sl) : ∀ (vs : List Nat) (j : Nat), (wipeS σ vs)[j]? = if j ∈ vs then (if j < σ.length then some none else none) else σ[j]? := by
  intro vs
  induction vs with
  | nil => intro j; simp [wipeS]
  | cons v vs ih =>
    intro j
    have hl : (wipeS σ vs).length = σ.length := by
      clear ih
      induction vs with
      | nil => rfl
      | cons u us ih => unfold wipeS; rw [List.length_set, ih]
    unfold wipeS
    rw [List.getElem?_set, ih j, hl]
    by_cases h : v = j
    · subst h; simp
    · have h' : ¬ j = v := fun e => h e.symm
      simp [h, h']
theorem wipe_set {σ : L2.St} {vs : List Nat} {i : Nat} {x : Option V} (hi : i ∈ vs) : wipe (σ.set i x) vs = wipe σ vs := by
  refine List.ext_getElem? fun j => ?_
  rw [wipe_get, wipe_get, List.length_set]
  by_cases h : j ∈ vs
  · rw [if_pos h, if_pos h]
  · rw [if_neg h, if_neg h]
    rw [List.getElem?_set_ne (fun e : i = j => h (by rw [← e]; exact hi))]
theorem EnvR.wipe {w : Ws} {σ : L2.St} {e : Sl} (r : EnvR K W w σ e) (vs : List Nat) : EnvR K W w (wipe σ vs) (wipeS e vs) := by
  refine ⟨?_, fun i d h => ?_⟩
  · have a := wipe_length σ vs
    have b : (wipeS e vs).length = e.length := by
      induction vs with
      | nil => rfl
      | cons u us ih => unfold wipeS; rw [List.length_set, ih (wipe_length σ us)]
    rw [a, b, r.len]
  · rw [wipeS_get] at h
    rw [wipe_get]
    split at h
    · split at h <;> cases h
    · rename_i hn
      rw [if_neg hn]
      exact r.get i d h
theorem gNames_ok {vs : List Nat} {H : Hp} : ∀ {is : List Nat} {xs : List V} {ds : List Dt} {w : Ws} {σ σ0 : L2.St} {e : Sl} {Q : L2.St → Hp → Prop}, (∀ i ∈ is, i ∈ vs) → w.H = H → Dvs K W w xs ds → ds.length = is.length → EnvR K W w σ e → L2.wipe σ vs = L2.wipe σ0 vs →
    (∀ σ2, EnvR K W w σ2 (setAll is ds e) → L2.wipe σ2 vs = L2.wipe σ0 vs → Q σ2 H) → gNames is xs σ H Q
  | [], _, _, w, σ, σ0, e, Q, _, _, r, hl, er, hw, k => by
    cases r with
    | nil => exact ⟨rfl, k σ er hw⟩
    | cons _ _ => cases hl
  | i :: is, _, _, w, σ, σ0, e, Q, hv, hH, r, hl, er, hw, k => by
    cases r with
    | nil => cases hl
    | @cons x xs d ds r1 r2 =>
      refine ⟨x, xs, rfl, ?_⟩
      show gNames is xs (σ.set i (some x)) H Q
      refine gNames_ok (fun j hj => hv j (List.mem_cons_of_mem _ hj)) hH r2 (by simpa using hl) (er.set r1 i) ?_ k
      rw [wipe_set (hv i List.mem_cons_self)]
      exact hw
theorem Tgt.ok {t : Tgt} {vs : List Nat} (hv : ∀ i ∈ t.slots, i ∈ vs) {w : Ws} {x : V} {d : Dt} {σ σ0 : L2.St} {e e' : Sl} {Q : L2.St → Hp → Prop} (r : Dv K W w x d) (er : EnvR K W w σ e) (hw : L2.wipe σ vs = L2.wipe σ0 vs) (hm : t.m d e = some e')
    (k : ∀ σ2, EnvR K W w σ2 e' → L2.wipe σ2 vs = L2.wipe σ0 vs → Q σ2 w.H) : t.g K x σ w.H Q := by
  cases t with
  | one i =>
    simp only [Tgt.m, Option.some.injEq] at hm
    subst hm
    refine k _ (er.set r i) ?_
    rw [wipe_set (hv i (by simp [Tgt.slots]))]
    exact hw
  | many is =>
    cases r with
    | @tup a xs ds hs rs =>
      simp only [Tgt.m] at hm
      split at hm
      · rename_i hl
        cases hm
        exact ⟨a, xs, rfl, hs, by rw [rs.length]; exact hl, gNames_ok hv rfl rs hl er hw k⟩
      · cases hm
    | _ => simp [Tgt.m] at hm
/-- several tests -/
def yesT : TM := fun _ M => some (true, M)
noncomputable def lcL (gd : Mem → Prop) (t : Tgt) (c : TM) (el : EM) (e0 : Sl) : List Dt → List Dt → Mem → Option (List Dt × Mem)
  | [], acc, M => open Classical in if gd M then some (acc, M) else none
  | d :: ds, acc, M => open Classical in if gd M then (match t.m d e0 with
    | none => none
    | some e1 => thn1 (c e1 M) fun b M2 => if b = true then thn1 (el e1 M2) fun y M3 => if acc.length < sizeLine then lcL gd t c el e0 ds (acc ++ [y]) M3 else none else lcL gd t c el e0 ds acc M2) else none
noncomputable def lcE (it : IM) (t : Tgt) (c : TM) (el : EM) (vs : List Nat) : EM := fun e M => thn1 (it e M) fun src M1 => thn1 (lcL src.gd t c el (wipeS e vs) src.its [] M1) fun ds M2 => some (.lst ds, M2)
/-- the world within a comprehension: the new list at D is hidden -/
def Ws.hide (w : Ws) (D : Addr) (o : HO) : Ws := { w with H := upd w.H D o, ex := D :: w.ex }
/-- .. behind it -/
def Ws.unh (w : Ws) (ex : List Addr) : Ws := { w with ex := ex }
def Ws.upd (w : Ws) (D : Addr) (o : HO) : Ws := { w with H := L2.upd w.H D o }
theorem Ext.hide {w : Ws} (ok : Ok K W w) {D : Addr} {o : HO} (hD : w.H D = none) : Ext w (w.hide D o) := by
  have e := Ext.put ok (o := o) hD
  refine ⟨⟨e.pre, e.imm, fun a u h n => ?_⟩, e.hid, fun a h => List.mem_cons_of_mem _ h⟩
  obtain ⟨h1, n1⟩ := e.frz a u h n
  refine ⟨h1, n.nl, ?_⟩
  show a ∉ D :: w.ex
  rw [List.mem_cons, not_or]
  exact ⟨ne_of_none h hD, n.nx⟩
theorem Ok.hide {w : Ws} (ok : Ok K W w) {D : Addr} {o : HO} (hD : w.H D = none) : Ok K W (w.hide D o) := by
  have q := ok.put (o := o) hD
  refine ⟨q.len, q.nd, q.has, fun a h => ?_, fun i a c h1 h2 => ?_⟩
  · rcases List.mem_cons.mp h with rfl | h
    · exact ⟨ok.fresh hD, o, upd_same⟩
    · exact q.exl a h
  · have z := ok.cells i a c h1 h2
    obtain ⟨u, e, _⟩ := z.mut
    refine z.mono (Ext.hide ok hD) ?_
    show L2.upd w.H D o a = w.H a
    rw [upd_ne (ne_of_none e hD)]
/-- the hidden list grows -/
theorem Ext0.upd {w : Ws} {D : Addr} {o : HO} {xs : List V} (h : D ∈ w.ex) (hD : w.H D = some (.lst xs)) : Ext0 w (w.upd D o) := by
  refine ⟨⟨[], by simp [Ws.upd]⟩, fun a u e n => ?_, fun a u e n => ⟨?_, n.nl, n.nx⟩⟩
  · have : a ≠ D := by
      rintro rfl
      rw [hD] at e; cases e
      exact n trivial
    show L2.upd w.H D o a = some u
    rw [upd_ne this]; exact e
  · have : a ≠ D := by
      rintro rfl
      exact n.nx h
    show L2.upd w.H D o a = some u
    rw [upd_ne this]; exact e
theorem Ok.upd {w : Ws} (ok : Ok K W w) {D : Addr} {o : HO} {xs : List V} (h : D ∈ w.ex) (hD : w.H D = some (.lst xs)) : Ok K W (w.upd D o) := by
  have all : ∀ b, (∃ u, w.H b = some u) → ∃ u, L2.upd w.H D o b = some u := fun b hb => by
    by_cases e : b = D
    · subst e; exact ⟨o, upd_same⟩
    · rw [upd_ne e]; exact hb
  refine ⟨ok.len, ok.nd, fun a ha => all a (ok.has a ha), fun a ha => ⟨(ok.exl a ha).1, all a (ok.exl a ha).2⟩, fun i a c h1 h2 => ?_⟩
  refine CellAt.mono0 (Ext0.upd h hD) ?_ (ok.cells i a c h1 h2)
  show L2.upd w.H D o a = w.H a
  refine upd_ne ?_
  rintro rfl
  exact (ok.exl a h).1 (List.mem_of_getElem? h1)
/-- from w1, ahead of the list at D: w2 within, D's list changed -/
theorem Ext.upd {w1 w2 : Ws} (ok1 : Ok K W w1) (x : Ext w1 w2) {D : Addr} {o : HO} (hD : w1.H D = none) : Ext w1 (w2.upd D o) := by
  refine ⟨⟨x.pre, fun a u e n => ?_, fun a u e n => ?_⟩, fun a h => ?_, x.exm⟩
  · show L2.upd w2.H D o a = some u
    rw [upd_ne (ne_of_none e hD)]
    exact x.imm a u e n
  · obtain ⟨h1, n1⟩ := x.frz a u e n
    refine ⟨?_, n1.nl, n1.nx⟩
    show L2.upd w2.H D o a = some u
    rw [upd_ne (ne_of_none e hD)]
    exact h1
  · show L2.upd w2.H D o a = w1.H a
    rw [upd_ne (ok1.exn hD h)]
    exact x.hid a h
theorem Ext.unh {w1 w2 : Ws} (x : Ext w1 w2) : Ext w1 (w2.unh w1.ex) := by
  refine ⟨⟨x.pre, x.imm, fun a u e n => ?_⟩, x.hid, fun a h => h⟩
  obtain ⟨h1, n1⟩ := x.frz a u e n
  exact ⟨h1, n1.nl, n.nx⟩
theorem Ext0.unh {w2 : Ws} {ex : List Addr} (h : ∀ a ∈ ex, a ∈ w2.ex) : Ext0 w2 (w2.unh ex) :=
  ⟨⟨[], by simp [Ws.unh]⟩, fun _ _ e _ => e, fun a u e n => ⟨e, n.nl, fun z => n.nx (h a z)⟩⟩
theorem Ok.unh {w2 : Ws} (ok : Ok K W w2) {ex : List Addr} (h : ∀ a ∈ ex, a ∈ w2.ex) : Ok K W (w2.unh ex) :=
  ⟨ok.len, ok.nd, ok.has, fun a ha => ok.exl a (h a ha), fun i a c h1 h2 => CellAt.mono0 (Ext0.unh h) rfl (ok.cells i a c h1 h2)⟩
abbrev RTs (X : Cx) (ifs : List Expr) (m : TM) : Prop := PTs X ifs (tT X.K X.w m)
theorem rts_nil : RTs X [] yesT := by
  refine ⟨fun pins s σ H Q I q => (pts_nil (X := X)).run pins s σ H Q I ?_⟩
  obtain ⟨w, sl, b, M', rfl, ok, er, hm, f⟩ := q
  cases hm
  exact f w rfl ok (Ext.refl w)
theorem rts_one {c : Expr} {m : TM} (h : RT X c m) : RTs X [c] m := pts_one h
theorem lc_read {mi : IM} {t : Tgt} {mc : TM} {me : EM} {vs : List Nat} (hv : ∀ i ∈ t.slots, i ∈ vs) {σ : L2.St} {H : Hp} {Q : VK} (q : tE K W (lcE mi t mc me vs) σ H Q) : tLc (tI K W mi) (t.g K) (tT K W mc) (tE K W me) vs σ H Q := by
  obtain ⟨w, sl, d, M', rfl, ok, er, hm, f⟩ := q
  obtain ⟨src, M1, h1, hm⟩ := thn1_eq hm
  obtain ⟨ds, M2, h2, hm⟩ := thn1_eq hm
  cases hm
  refine ⟨w, sl, src, M1, rfl, ok, er, h1, fun w1 J hM1 ok1 x1 y => ?_⟩
  intro D hD
  refine ⟨fun i m H => m = src.its.length - i ∧ i ≤ src.its.length ∧ ∃ w2 acc xs, w2.H = H ∧ Ok K W w2 ∧ D ∈ w2.ex ∧ Ext w1 w2 ∧ H D = some (.lst xs) ∧ Dvs K W w2 xs acc ∧ lcL src.gd t mc me (wipeS sl vs) (src.its.drop i) acc w2.M = some (ds, M'),
    ⟨src.its.length, by simp, Nat.zero_le _, w1.hide D (.lst []), [], [], rfl, ok1.hide hD, List.mem_cons_self, Ext.hide ok1 hD, upd_same, .nil, by show lcL src.gd t mc me (wipeS sl vs) src.its [] w1.M = _; rw [hM1]; exact h2⟩, ?_⟩
  rintro i m H2 ⟨rfl, hil, w2, acc, xs, rfl, ok2, hDx, x2, hDl, ra, hl⟩
  by_cases hlt : i < src.its.length
  · rw [List.drop_eq_getElem_cons hlt] at hl
    unfold lcL at hl
    split at hl
    · rename_i hgd
      obtain ⟨y1, _⟩ := y i w2 ok2 x2 hgd
      obtain ⟨hgo, hy⟩ := y1 _ (List.getElem?_eq_getElem hlt)
      refine .inr ⟨hgo, fun H' => i + 1 ≤ src.its.length ∧ ∃ w3 acc xs, w3.H = H' ∧ Ok K W w3 ∧ D ∈ w3.ex ∧ Ext w1 w3 ∧ H' D = some (.lst xs) ∧ Dvs K W w3 xs acc ∧ lcL src.gd t mc me (wipeS sl vs) (src.its.drop (i + 1)) acc w3.M = some (ds, M'),
        fun H' ⟨h, r⟩ => ⟨src.its.length - (i + 1), by omega, rfl, h, r⟩, fun v H' hv' => ?_⟩
      obtain ⟨w3, rfl, hM3, ok3, x3, rv⟩ := hy v H' hv'
      split at hl
      · cases hl
      · rename_i e4 hg4
        have er3 : EnvR K W w3 (L2.wipe σ vs) (wipeS sl vs) := (er.mono ((x1.trans x2).trans x3)).wipe vs
        refine Tgt.ok (σ0 := σ) hv rv er3 ?_ hg4 fun σ4 er4 hw4 => ⟨hw4, ?_⟩
        · refine List.ext_getElem? fun j => ?_
          rw [wipe_get, wipe_get, wipe_length]
          split
          · rfl
          · rfl
        · obtain ⟨b, M5, hc5, hl⟩ := thn1_eq hl
          refine ⟨w3, e4, b, M5, rfl, ok3, er4, by rw [hM3]; exact hc5, fun w5 hM5 ok5 x5 => ?_⟩
          have x15 := (x2.trans x3).trans x5
          have hD5 : w5.H D = some (.lst xs) := by
            rw [x5.hid D (x3.exm D hDx), x3.hid D hDx]
            exact hDl
          have hDx5 : D ∈ w5.ex := x5.exm D (x3.exm D hDx)
          cases b with
          | false =>
            simp only [Bool.false_eq_true, if_false] at hl ⊢
            exact ⟨hlt, w5, acc, xs, rfl, ok5, hDx5, x15, hD5, (ra.mono x3).mono x5, by rw [hM5]; exact hl⟩
          | true =>
            simp only [if_true] at hl ⊢
            obtain ⟨yv, M6, he6, hl⟩ := thn1_eq hl
            split at hl
            · rename_i hz
              refine ⟨w5, e4, yv, M6, rfl, ok5, er4.mono x5, by rw [hM5]; exact he6, fun w6 z hM6 ok6 x6 rz => ?_⟩
              have hDx6 : D ∈ w6.ex := x6.exm D hDx5
              have hD6 : w6.H D = some (.lst xs) := by
                rw [x6.hid D hDx5]
                exact hD5
              have ra6 : Dvs K W w6 xs acc := ((ra.mono x3).mono x5).mono x6
              refine ⟨xs, hD6, by rw [ra6.length]; exact hz, hlt, w6.upd D (.lst (xs ++ [z])), acc ++ [yv], xs ++ [z], rfl, ok6.upd hDx6 hD6, hDx6, Ext.upd ok1 (x15.trans x6) hD, upd_same, ?_, ?_⟩
              · exact Dvs.mono0 (Ext0.upd hDx6 hD6) _ _ (ra6.append (.one rz))
              · show lcL src.gd t mc me (wipeS sl vs) (src.its.drop (i + 1)) (acc ++ [yv]) w6.M = _
                rw [hM6]
                exact hl
            · cases hl
    · cases hl
  · have e : i = src.its.length := by omega
    rw [List.drop_eq_nil_of_le (by omega)] at hl
    unfold lcL at hl
    split at hl
    · rename_i hgd
      simp only [Option.some.injEq, Prod.mk.injEq] at hl
      obtain ⟨rfl, hM⟩ := hl
      obtain ⟨_, y2⟩ := y i w2 ok2 x2 hgd
      refine .inl ⟨y2 (by omega), f (w2.unh w1.ex) _ hM (ok2.unh x2.exm) (x1.trans x2.unh) ?_⟩
      refine .lst hDl ⟨?_, ok1.exf hD⟩ (Dvs.mono0 (Ext0.unh x2.exm) _ _ ra)
      rintro ⟨j, c, h3, _⟩
      exact (ok2.exl D hDx).1 (List.mem_of_getElem? h3)
    · cases hl
theorem re_lc {elt tg iter : Expr} {ifs : List Expr} {scope : Scope} {own : List (Str × Nat)} {pos : Pos} {mi : IM} {t : Tgt} {mc : TM} {me : EM} (hc : X.calm = true) (hN : X.N.Nodup) (hi : RI X tg iter mi) (ok : BlkOk X.N X.env.scope scope own)
    (hg : ∀ (s : Shared) (H : Hp) (C : Addr) (cl : List (Str × Addr)) (fp : List Addr), PG (X.blk s H scope (compEnvC scope cl C X.env) fp) tg (t.g X.K)) (ht : ∀ (s : Shared) (H : Hp) (C : Addr) (cl : List (Str × Addr)) (fp : List Addr), RTs (X.blk s H scope (compEnvC scope cl C X.env) fp) ifs mc)
    (he : ∀ (s : Shared) (H : Hp) (C : Addr) (cl : List (Str × Addr)) (fp : List Addr), RE (X.blk s H scope (compEnvC scope cl C X.env) fp) elt me) (hv : ∀ i ∈ t.slots, i ∈ own.map (·.2)) (hs : ∀ x, foldedSetIterable iter X.env x = pure x := by intro _; rfl) :
    RE X (.ListComp elt [⟨tg, iter, ifs, 0⟩] scope pos) (lcE mi t mc me (own.map (·.2))) :=
  pe_weak (pe_lc hc hN hi ok hg ht he hs) fun σ H Q q => lc_read hv q
theorem rs_setLc {i : Nat} {y : Str} {py : Pos} {elt tg iter : Expr} {ifs : List Expr} {scope : Scope} {own : List (Str × Nat)} {pos spos : Pos} {mi : IM} {t : Tgt} {mc : TM} {me : EM} (hc : X.calm = true) (hN : X.N.Nodup) (hyl : X.env.scope.names.lookup y = some .local)
    (hsw : swapsWith (.ListComp elt [⟨tg, iter, ifs, 0⟩] scope pos) (some (.Name y py)) spos.line X.env = pure true) (hi : RI X tg iter mi) (ok : BlkOk X.N X.env.scope scope own)
    (hg : ∀ (s : Shared) (H : Hp) (C : Addr) (cl : List (Str × Addr)) (fp : List Addr), PG (X.blk s H scope (compEnvC scope cl C X.env) fp) tg (t.g X.K)) (ht : ∀ (s : Shared) (H : Hp) (C : Addr) (cl : List (Str × Addr)) (fp : List Addr), RTs (X.blk s H scope (compEnvC scope cl C X.env) fp) ifs mc)
    (he : ∀ (s : Shared) (H : Hp) (C : Addr) (cl : List (Str × Addr)) (fp : List Addr), RE (X.blk s H scope (compEnvC scope cl C X.env) fp) elt me) (hv : ∀ i ∈ t.slots, i ∈ own.map (·.2)) (hy : X.N[i]? = some y := by rfl) (hs : ∀ x, foldedSetIterable iter X.env x = pure x := by intro _; rfl) :
    RS X (.Assign [.Name y py] (.ListComp elt [⟨tg, iter, ifs, 0⟩] scope pos) spos) (setS i (lcE mi t mc me (own.map (·.2)))) := by
  refine ps_weak (ps_setLc (i := i) (tt := tT X.K X.w mc) (te := tE X.K X.w me) hc hN hy hyl hsw hi ok hg ht he hs) fun D σ H q => ?_
  obtain ⟨w, sl, fl, sl', M', rfl, ok, er, hm, f⟩ := q
  obtain ⟨d, M1, h1, hm⟩ := thn1_eq hm
  cases hm
  exact lc_read hv ⟨w, sl, d, M', rfl, ok, er, h1, fun w1 v hM1 ok1 x1 r => f w1 hM1 ok1 x1 _ ((er.mono x1).set r i)⟩
end
end DL
/-! The data layer, part d: operators, comparisons, items, slices, built-ins over data. -/
namespace DL
open PySem PySem.Spec PyProof.Rows L2

section
variable {X : Cx} {K : PySem.W.Frag} {W : World}
/-! ### arithmetic -/
def pure2 (g : Dt → Dt → Option Dt) : Dt → Dt → Mem → Option (Dt × Mem) := fun a b M => pur (g a b) M
def addD : Dt → Dt → Option Dt
  | .int a, .int b => some (.int (a + b))
  | .str a, .str b => if a.length + b.length ≤ sizeLine then some (.str (a ++ b)) else none
  | .tup a, .tup b => if a.length + b.length ≤ sizeLine then some (.tup (a ++ b)) else none
  | .lst a, .lst b => if a.length + b.length ≤ sizeLine then some (.lst (a ++ b)) else none
  | _, _ => none
def rAddD (K : PySem.W.Frag) : R2 := fun x y H Q => (∃ i j, x = .int i ∧ y = .int j ∧ Q (.int (i + j)) H) ∨ ((∃ i j, x = .str i ∧ y = .str j ∧ i.length + j.length ≤ sizeLine ∧ Q (.str (i ++ j)) H) ∨ (rCatA K x y H Q ∨ rCat x y H Q))
theorem op_addD : OpR X (binaryOp .Add) (rAddD X.K) := op_add.or (op_add_str.or (op_catA.or op_cat))
theorem add_ok : R2Ok K W (rAddD K) (pure2 addD) := by
  intro w x y a b d M' Q ok rx ry h f
  replace h := pur_eq h
  obtain ⟨rfl, h⟩ := h
  cases rx with
  | int i =>
    cases ry with
    | int j =>
      simp only [addD, Option.some.injEq] at h
      subst h
      exact .inl ⟨i, j, rfl, rfl, fin_here f ok (.int _)⟩
    | _ => simp [addD] at h
  | str i =>
    cases ry with
    | str j =>
      simp only [addD] at h
      split at h
      · rename_i hl
        cases h
        exact .inr (.inl ⟨i, j, rfl, rfl, hl, fin_here f ok (.str _)⟩)
      · cases h
    | _ => simp [addD] at h
  | @tup p xs ds h1 h2 =>
    cases ry with
    | @tup q ys es k1 k2 =>
      simp only [addD] at h
      split at h
      · rename_i hl
        cases h
        refine .inr (.inr (.inl ⟨p, q, xs, ys, rfl, rfl, h1, k1, by rw [h2.length, k2.length]; exact hl, ?_, ?_, ?_⟩))
        · intro e
          subst e
          cases h2
          exact fin_here f ok (.tup k1 k2)
        · intro _ e
          subst e
          cases k2
          rw [List.append_nil] at f
          exact fin_here f ok (.tup h1 h2)
        · intro _ _
          exact fin_tup ok (h2.append k2) f
      · cases h
    | _ => simp [addD] at h
  | @lst p xs ds h1 n h2 =>
    cases ry with
    | @lst q ys es k1 n' k2 =>
      simp only [addD] at h
      split at h
      · rename_i hl
        cases h
        exact .inr (.inr (.inr ⟨p, q, xs, ys, rfl, rfl, h1, k1, by rw [h2.length, k2.length]; exact hl, fin_lst ok (h2.append k2) f⟩))
      · cases h
    | _ => simp [addD] at h
  | _ => simp [addD] at h
theorem re_add {a b : Expr} {pos : Pos} {ma mb : EM} (ha : RE X a ma) (hb : RE X b mb) : RE X (.BinOp a .Add b pos) (opE (pure2 addD) ma mb) := re_op op_addD add_ok ha hb
/-- ints under a condition -/
def intD (C : Int → Int → Prop) [∀ i j, Decidable (C i j)] (g : Int → Int → Int) : Dt → Dt → Option Dt
  | .int a, .int b => if C a b then some (.int (g a b)) else none
  | _, _ => none
theorem intD_ok (C : Int → Int → Prop) [∀ i j, Decidable (C i j)] (g : Int → Int → Int) : R2Ok K W (rI C fun i j => .int (g i j)) (pure2 (intD C g)) := by
  intro w x y a b d M' Q ok rx ry h f
  replace h := pur_eq h
  obtain ⟨rfl, h⟩ := h
  cases rx with
  | int i =>
    cases ry with
    | int j =>
      simp only [intD] at h
      split at h
      · rename_i hc
        cases h
        exact ⟨i, j, rfl, rfl, hc, fin_here f ok (.int _)⟩
      · cases h
    | _ => simp [intD] at h
  | _ => simp [intD] at h
instance (i j : Int) : Decidable (CMul i j) := by unfold CMul; infer_instance
instance (i j : Int) : Decidable (CDivN i j) := by unfold CDivN; infer_instance
instance (i j : Int) : Decidable (CPow i j) := by unfold CPow; infer_instance
abbrev mulD := intD CMul fun i j => i * j
abbrev fdivD := intD CDivN fun i j => i.fdiv j
abbrev fmodD := intD (fun _ j => j ≠ 0) fun i j => i.fmod j
abbrev powD := intD CPow fun i j => i ^ j.toNat
def subD : Dt → Dt → Option Dt
  | .int a, .int b => some (.int (a - b))
  | _, _ => none
theorem sub_ok : R2Ok K W (rI0 fun i j => .int (i - j)) (pure2 subD) := by
  intro w x y a b d M' Q ok rx ry h f
  replace h := pur_eq h
  obtain ⟨rfl, h⟩ := h
  cases rx with
  | int i =>
    cases ry with
    | int j =>
      simp only [subD, Option.some.injEq] at h
      subst h
      exact ⟨i, j, rfl, rfl, fin_here f ok (.int _)⟩
    | _ => simp [subD] at h
  | _ => simp [subD] at h
theorem re_mul {a b : Expr} {pos : Pos} {ma mb : EM} (ha : RE X a ma) (hb : RE X b mb) : RE X (.BinOp a .Mult b pos) (opE (pure2 mulD) ma mb) := re_op op_mul (intD_ok _ _) ha hb
theorem re_fdiv {a b : Expr} {pos : Pos} {ma mb : EM} (ha : RE X a ma) (hb : RE X b mb) : RE X (.BinOp a .FloorDiv b pos) (opE (pure2 fdivD) ma mb) := re_op op_fdivN (intD_ok _ _) ha hb
theorem re_mod {a b : Expr} {pos : Pos} {ma mb : EM} (ha : RE X a ma) (hb : RE X b mb) : RE X (.BinOp a .Mod b pos) (opE (pure2 fmodD) ma mb) := re_op op_modN (intD_ok _ _) ha hb
theorem re_pow {a b : Expr} {pos : Pos} {ma mb : EM} (ha : RE X a ma) (hb : RE X b mb) : RE X (.BinOp a .Pow b pos) (opE (pure2 powD) ma mb) := re_op op_pow (intD_ok _ _) ha hb
theorem re_sub {a b : Expr} {pos : Pos} {ma mb : EM} (ha : RE X a ma) (hb : RE X b mb) : RE X (.BinOp a .Sub b pos) (opE (pure2 subD) ma mb) := re_op op_sub sub_ok ha hb
theorem re_neg {a : Expr} {pos : Pos} {ma : EM} (ha : RE X a ma) : RE X (.UnaryOp .USub a pos) (unE negD ma) := re_un un_neg neg_ok ha

/-! ### data as the library's data -/
mutual
def toPy : Dt → Option PyData
  | .non => some .none
  | .bl b => some (.bool b)
  | .int i => some (.int i)
  | .str x => some (.str x)
  | .tup ds => (toPys ds).map .tuple
  | .lst ds => (toPys ds).map .list
  | .lsk ds => (toPys ds).map .list
  | .adr _ => none
  | .ty _ => none
  | .ref _ => none
  | .dic _ _ => none
  | .obj _ _ _ => none
  | .sett _ => none
def toPys : List Dt → Option (List PyData)
  | [] => some []
  | d :: ds => match toPy d, toPys ds with
    | some k, some ks => some (k :: ks)
    | _, _ => none
end
theorem toPys_cons {d : Dt} {ds : List Dt} {ks : List PyData} (h : toPys (d :: ds) = some ks) : ∃ k r, toPy d = some k ∧ toPys ds = some r ∧ ks = k :: r := by
  rw [toPys] at h
  cases h1 : toPy d with
  | none => simp [h1] at h
  | some k =>
    cases h2 : toPys ds with
    | none => simp [h1, h2] at h
    | some r =>
      simp only [h1, h2, Option.some.injEq] at h
      exact ⟨k, r, rfl, rfl, h.symm⟩
mutual
theorem Dv.dp {w : Ws} : ∀ (d : Dt) (v : V) (p : PyData), Dv K W w v d → toPy d = some p → Dp K w.H v p
  | .non, _, _, h, e => by cases h; simp [toPy] at e; subst e; exact .non
  | .bl b, _, _, h, e => by cases h; simp [toPy] at e; subst e; exact .bl b
  | .int i, _, _, h, e => by cases h; simp [toPy] at e; subst e; exact .int i
  | .str x, _, _, h, e => by cases h; simp [toPy] at e; subst e; exact .str x
  | .tup ds, _, p, h, e => by
    rw [toPy, Option.map_eq_some_iff] at e
    obtain ⟨ps, e, rfl⟩ := e
    cases h with | tup h1 h2 => exact .tup h1 (Dvs.dp ds _ ps h2 e)
  | .lst ds, _, p, h, e => by
    rw [toPy, Option.map_eq_some_iff] at e
    obtain ⟨ps, e, rfl⟩ := e
    cases h with | lst h1 n h2 => exact .lst (SqL.of h1) (Dvs.dp ds _ ps h2 e)
  | .lsk ds, _, p, h, e => by
    rw [toPy, Option.map_eq_some_iff] at e
    obtain ⟨ps, e, rfl⟩ := e
    cases h with | lstK h1 h2 => exact .lst h1.sq (Dvs.dp ds _ ps h2 e)
  | .adr _, _, _, _, e => by simp [toPy] at e
  | .ty _, _, _, _, e => by simp [toPy] at e
  | .ref _, _, _, _, e => by simp [toPy] at e
  | .dic _ _, _, _, _, e => by simp [toPy] at e
  | .obj _ _ _, _, _, _, e => by simp [toPy] at e
  | .sett _, _, _, _, e => by simp [toPy] at e
theorem Dvs.dp {w : Ws} : ∀ (ds : List Dt) (vs : List V) (ps : List PyData), Dvs K W w vs ds → toPys ds = some ps → DpAll K w.H vs ps
  | [], _, _, h, e => by cases h; simp [toPys] at e; subst e; exact .nil
  | d :: ds, _, ps, h, e => by
    obtain ⟨k, r, e1, e2, rfl⟩ := toPys_cons e
    cases h with
    | cons h1 h2 => exact .cons (Dv.dp d _ k h1 e1) (Dvs.dp ds _ r h2 e2)
end
/-- a list in a cell as the list -/
def deref (M : Mem) : Dt → Dt
  | .ref i => match M[i]? with
    | some (some (.lst ds)) => .lst ds
    | _ => .ref i
  | d => d
theorem deref_dp {w : Ws} {d : Dt} {v : V} {p : PyData} (ok : Ok K W w) (r : Dv K W w v d) (e : toPy (deref w.M d) = some p) : Dp K w.H v p := by
  cases d with
  | ref i =>
    simp only [deref] at e
    split at e
    · rename_i ds hc
      rw [toPy, Option.map_eq_some_iff] at e
      obtain ⟨ps, e, rfl⟩ := e
      cases r with
      | ref hr =>
        obtain ⟨xs, hx, q⟩ := ok.cells _ _ _ hr hc
        exact .lst (SqL.of hx) (Dvs.dp ds _ ps q e)
    · simp [toPy] at e
  | _ => exact Dv.dp _ _ _ r e
/-- == -/
def eqO (M : Mem) (a b : Dt) : Option Bool := match toPy (deref M a), toPy (deref M b) with
  | some p, some q => if SeqAt.shaped p = true ∧ SeqAt.shaped q = true then some (PyData.eqv p q) else none
  | _, _ => none
theorem eqO_eq {M : Mem} {a b : Dt} {r : Bool} (h : eqO M a b = some r) : ∃ p q, toPy (deref M a) = some p ∧ toPy (deref M b) = some q ∧ SeqAt.shaped p = true ∧ SeqAt.shaped q = true ∧ r = PyData.eqv p q := by
  unfold eqO at h
  split at h
  · rename_i p q h1 h2
    split at h
    · rename_i hs
      cases h
      exact ⟨p, q, h1, h2, hs.1, hs.2, rfl⟩
    · cases h
  · cases h
def eqD : Dt → Dt → Mem → Option (Dt × Mem) := fun a b M => pur ((eqO M a b).map .bl) M
def neD : Dt → Dt → Mem → Option (Dt × Mem) := fun a b M => pur ((eqO M a b).map fun c => .bl (!c)) M
theorem eq_ok : R2Ok K W (rEqD K) eqD := by
  intro w x y a b d M' Q ok rx ry h f
  replace h := pur_eq h
  obtain ⟨rfl, h⟩ := h
  obtain ⟨r, hr, rfl⟩ := Option.map_eq_some_iff.mp h
  obtain ⟨p, q, h1, h2, s1, s2, rfl⟩ := eqO_eq hr
  exact ⟨p, q, deref_dp ok rx h1, deref_dp ok ry h2, s1, s2, fin_here f ok (.bl _)⟩
theorem ne_ok : R2Ok K W (rNeD K) neD := by
  intro w x y a b d M' Q ok rx ry h f
  replace h := pur_eq h
  obtain ⟨rfl, h⟩ := h
  obtain ⟨r, hr, rfl⟩ := Option.map_eq_some_iff.mp h
  obtain ⟨p, q, h1, h2, s1, s2, rfl⟩ := eqO_eq hr
  exact ⟨p, q, deref_dp ok rx h1, deref_dp ok ry h2, s1, s2, fin_here f ok (.bl _)⟩
theorem re_eq {a b : Expr} {pos : Pos} {k : Nat} {ma mb : EM} (hr : Room k X.A) (ha : RE X a ma) (hb : RE X b mb) : RE X (.Compare a [.Eq] [b] pos) (opE eqD ma mb) := re_cmp (op_eqD hr.units) eq_ok (nomark _) ha hb
theorem re_ne {a b : Expr} {pos : Pos} {k : Nat} {ma mb : EM} (hr : Room k X.A) (ha : RE X a ma) (hb : RE X b mb) : RE X (.Compare a [.NotEq] [b] pos) (opE neD ma mb) := re_cmp (op_neD hr.units) ne_ok (nomark _) ha hb
theorem rt_eq {a b : Expr} {pos : Pos} {k : Nat} {ma mb : EM} (hr : Room k X.A) (ha : RE X a ma) (hb : RE X b mb) : RT X (.Compare a [.Eq] [b] pos) (blT (opE eqD ma mb)) := rt_cmp (op_eqD hr.units) eq_ok (nomark _) ha hb
theorem rt_ne {a b : Expr} {pos : Pos} {k : Nat} {ma mb : EM} (hr : Room k X.A) (ha : RE X a ma) (hb : RE X b mb) : RT X (.Compare a [.NotEq] [b] pos) (blT (opE neD ma mb)) := rt_cmp (op_neD hr.units) ne_ok (nomark _) ha hb
/-- is None, is not None -/
def isNon : Dt → Bool
  | .non => true
  | _ => false
def isND : Dt → Dt → Option Dt
  | a, .non => some (.bl (isNon a))
  | _, _ => none
def isnND : Dt → Dt → Option Dt
  | a, .non => some (.bl (!isNon a))
  | _, _ => none
theorem Dv.isN {w : Ws} {x : V} {a : Dt} (r : Dv K W w x a) : decide (x = .non) = isNon a := by
  cases r <;> simp [isNon]
theorem isN_ok : R2Ok K W (fun x y H Q => y = .non ∧ Q (.bl (decide (x = .non))) H) (pure2 isND) := by
  intro w x y a b d M' Q ok rx ry h f
  replace h := pur_eq h
  obtain ⟨rfl, h⟩ := h
  cases ry <;> simp only [isND, Option.some.injEq, reduceCtorEq] at h
  subst h
  refine ⟨rfl, ?_⟩
  rw [rx.isN]
  exact fin_here f ok (.bl _)
theorem isnN_ok : R2Ok K W (fun x y H Q => y = .non ∧ Q (.bl (!decide (x = .non))) H) (pure2 isnND) := by
  intro w x y a b d M' Q ok rx ry h f
  replace h := pur_eq h
  obtain ⟨rfl, h⟩ := h
  cases ry <;> simp only [isnND, Option.some.injEq, reduceCtorEq] at h
  subst h
  refine ⟨rfl, ?_⟩
  rw [rx.isN]
  exact fin_here f ok (.bl _)
theorem re_isN {a b : Expr} {pos : Pos} {ma mb : EM} (ha : RE X a ma) (hb : RE X b mb) : RE X (.Compare a [.Is] [b] pos) (opE (pure2 isND) ma mb) := re_cmp op_isN isN_ok (nomark _) ha hb
theorem re_isnN {a b : Expr} {pos : Pos} {ma mb : EM} (ha : RE X a ma) (hb : RE X b mb) : RE X (.Compare a [.IsNot] [b] pos) (opE (pure2 isnND) ma mb) := re_cmp op_notN isnN_ok (nomark _) ha hb
theorem rt_isN {a b : Expr} {pos : Pos} {ma mb : EM} (ha : RE X a ma) (hb : RE X b mb) : RT X (.Compare a [.Is] [b] pos) (blT (opE (pure2 isND) ma mb)) := rt_cmp op_isN isN_ok (nomark _) ha hb
theorem rt_isnN {a b : Expr} {pos : Pos} {ma mb : EM} (ha : RE X a ma) (hb : RE X b mb) : RT X (.Compare a [.IsNot] [b] pos) (blT (opE (pure2 isnND) ma mb)) := rt_cmp op_notN isnN_ok (nomark _) ha hb
/-- the order of ints -/
def cmpD (p : Int → Int → Bool) : Dt → Dt → Option Dt
  | .int a, .int b => some (.bl (p a b))
  | _, _ => none
theorem cmp_ok (p : Int → Int → Bool) : R2Ok K W (rI0 fun i j => .bl (p i j)) (pure2 (cmpD p)) := by
  intro w x y a b d M' Q ok rx ry h f
  replace h := pur_eq h
  obtain ⟨rfl, h⟩ := h
  cases rx with
  | int i =>
    cases ry with
    | int j =>
      simp only [cmpD, Option.some.injEq] at h
      subst h
      exact ⟨i, j, rfl, rfl, fin_here f ok (.bl _)⟩
    | _ => simp [cmpD] at h
  | _ => simp [cmpD] at h
abbrev leI := cmpD fun i j => decide (i ≤ j)
abbrev gtI := cmpD fun i j => decide (j < i)
abbrev geI := cmpD fun i j => decide (j ≤ i)
theorem re_le {a b : Expr} {pos : Pos} {ma mb : EM} (ha : RE X a ma) (hb : RE X b mb) : RE X (.Compare a [.LtE] [b] pos) (opE (pure2 leI) ma mb) := re_cmp op_le (cmp_ok _) (nomark _) ha hb
theorem re_gt {a b : Expr} {pos : Pos} {ma mb : EM} (ha : RE X a ma) (hb : RE X b mb) : RE X (.Compare a [.Gt] [b] pos) (opE (pure2 gtI) ma mb) := re_cmp op_gt (cmp_ok _) (nomark _) ha hb
theorem re_ge {a b : Expr} {pos : Pos} {ma mb : EM} (ha : RE X a ma) (hb : RE X b mb) : RE X (.Compare a [.GtE] [b] pos) (opE (pure2 geI) ma mb) := re_cmp op_ge (cmp_ok _) (nomark _) ha hb
theorem rt_le {a b : Expr} {pos : Pos} {ma mb : EM} (ha : RE X a ma) (hb : RE X b mb) : RT X (.Compare a [.LtE] [b] pos) (blT (opE (pure2 leI) ma mb)) := rt_cmp op_le (cmp_ok _) (nomark _) ha hb
theorem rt_gt {a b : Expr} {pos : Pos} {ma mb : EM} (ha : RE X a ma) (hb : RE X b mb) : RT X (.Compare a [.Gt] [b] pos) (blT (opE (pure2 gtI) ma mb)) := rt_cmp op_gt (cmp_ok _) (nomark _) ha hb
theorem rt_ge {a b : Expr} {pos : Pos} {ma mb : EM} (ha : RE X a ma) (hb : RE X b mb) : RT X (.Compare a [.GtE] [b] pos) (blT (opE (pure2 geI) ma mb)) := rt_cmp op_ge (cmp_ok _) (nomark _) ha hb

/-! ### items, slices of sequences -/
def seqAt (M : Mem) : Dt → Option (List Dt)
  | .tup ds => some ds
  | .lst ds => some ds
  | .lsk ds => some ds
  | .ref i => match M[i]? with
    | some (some (.lst ds)) => some ds
    | _ => none
  | _ => none
theorem seqAt_ok {w : Ws} {d : Dt} {v : V} {ds : List Dt} (ok : Ok K W w) (r : Dv K W w v d) (h : seqAt w.M d = some ds) : ∃ a xs, v = .ref a ∧ (SqL K w.H a xs ∨ SqT K w.H a xs) ∧ Dvs K W w xs ds := by
  cases r with
  | tup h1 h2 => simp only [seqAt, Option.some.injEq] at h; subst h; exact ⟨_, _, rfl, .inr h1, h2⟩
  | lst h1 _ h2 => simp only [seqAt, Option.some.injEq] at h; subst h; exact ⟨_, _, rfl, .inl (SqL.of h1), h2⟩
  | lstK h1 h2 => simp only [seqAt, Option.some.injEq] at h; subst h; exact ⟨_, _, rfl, .inl h1.sq, h2⟩
  | ref hr =>
    simp only [seqAt] at h
    split at h
    · rename_i es hc
      cases h
      obtain ⟨xs, hx, q⟩ := ok.cells _ _ _ hr hc
      exact ⟨_, _, rfl, .inl (SqL.of hx), q⟩
    · cases h
  | _ => simp [seqAt] at h
theorem Dvs.atI {w : Ws} {xs : List V} {ds : List Dt} {i : Int} {d : Dt} (h : Dvs K W w xs ds) (e : atI ds i = some d) : ∃ v, L2.atI xs i = some v ∧ Dv K W w v d := by
  unfold L2.atI at e ⊢
  rw [h.length]
  cases hj : ixN ds.length i with
  | none => rw [hj] at e; cases e
  | some j =>
    rw [hj] at e
    exact h.get e
def ixD : Dt → Dt → Mem → Option (Dt × Mem) := fun a b M => match b with
  | .int i => match a with
    | .str x => if x.length ≤ sizeLine then pur ((atI x.cps.toList i).map fun c => .str ⟨#[c]⟩) M else none
    | a => pur ((seqAt M a).bind fun ds => atI ds i) M
  | _ => none
theorem ix_ok : R2Ok K W (rIx K) ixD := by
  intro w x y a b d M' Q ok rx ry h f
  unfold ixD at h
  cases ry with
  | int i =>
    by_cases hs : ∃ z, a = .str z
    · obtain ⟨z, rfl⟩ := hs
      simp only at h
      split at h
      · rename_i hl
        replace h := pur_eq h
        obtain ⟨rfl, h⟩ := h
        obtain ⟨c, hc, rfl⟩ := Option.map_eq_some_iff.mp h
        cases rx
        exact .inr (.inr ⟨z, i, c, rfl, rfl, hl, hc, fin_here f ok (.str _)⟩)
      · cases h
    · have h' : pur ((seqAt w.M a).bind fun ds => atI ds i) w.M = some (d, M') := by
        cases a with
        | str z => exact absurd ⟨z, rfl⟩ hs
        | _ => exact h
      replace h' := pur_eq h'
      obtain ⟨rfl, h'⟩ := h'
      cases e : seqAt w.M a with
      | none => rw [e] at h'; cases h'
      | some ds =>
        rw [e] at h'
        obtain ⟨p, xs, rfl, q, r⟩ := seqAt_ok ok rx e
        obtain ⟨v, hv, rv⟩ := r.atI h'
        rcases q with q | q
        · exact .inl ⟨p, xs, i, v, rfl, rfl, q, hv, fin_here f ok rv⟩
        · exact .inr (.inl ⟨p, xs, i, v, rfl, rfl, q, hv, fin_here f ok rv⟩)
  | _ => simp at h
theorem re_ix {a b : Expr} {pos : Pos} {ma mb : EM} (ha : RE X a ma) (hb : RE X b mb) (hs : PlainIx b := by exact fun _ _ => rfl) : RE X (.Subscript a b pos) (opE ixD ma mb) := pe_weak (pe_ix ix_seq ha hb hs) (opE_ok ix_ok)
/-- a part of a slice -/
abbrev OM := Sl → Mem → Option (Option Int × Mem)
def tO (K : PySem.W.Frag) (W : World) (m : OM) : TO := fun σ H R => ∃ w e o M', w.H = H ∧ Ok K W w ∧ EnvR K W w σ e ∧ m e w.M = some (o, M') ∧ ∀ w', w'.M = M' → Ok K W w' → Ext w w' → R o w'.H
def noO : OM := fun _ M => some (none, M)
def someO (m : EM) : OM := fun e M => thn1 (m e M) fun d M1 => match d with
  | .int i => some (some i, M1)
  | _ => none
abbrev RO (X : Cx) (e : Option Expr) (m : OM) : Prop := PO X e (tO X.K X.w m)
theorem po_weak {e : Option Expr} {t t' : TO} (h : PO X e t) (k : ∀ σ H R, t' σ H R → t σ H R) : PO X e t' := ⟨fun pins s σ H R I q => h.run pins s σ H R I (k σ H R q)⟩
theorem ro_none : RO X none noO := po_weak po_none fun σ H R q => by
  obtain ⟨w, e, o, M', rfl, ok, er, hm, f⟩ := q
  cases hm
  exact f w rfl ok (Ext.refl w)
theorem ro_some {e : Expr} {m : EM} (h : RE X e m) : RO X (some e) (someO m) := po_weak (po_some h) fun σ H R q => by
  obtain ⟨w, e, o, M', rfl, ok, er, hm, f⟩ := q
  obtain ⟨d, M1, h1, hm⟩ := thn1_eq hm
  refine ⟨w, e, d, M1, rfl, ok, er, h1, fun w1 v hM1 ok1 x1 r => ?_⟩
  cases r with
  | int i =>
    simp only [Option.some.injEq, Prod.mk.injEq] at hm
    obtain ⟨rfl, rfl⟩ := hm
    exact ⟨i, rfl, f w1 hM1 ok1 x1⟩
  | _ => simp at hm
def cutL {α : Type} (xs : List α) (lo hi : Option Int) : List α := (xs.drop (HT.sIx xs.length 0 lo)).take (HT.sIx xs.length xs.length hi - HT.sIx xs.length 0 lo)
def slD (M : Mem) : Dt → Option Int → Option Int → Option Dt
  | .tup ds, lo, hi => some (.tup (cutL ds lo hi))
  | .str x, lo, hi => if x.length ≤ sizeLine then some (.str (cutS x lo hi)) else none
  | d, lo, hi => (seqAt M d).map fun ds => .lst (cutL ds lo hi)
def slE (a : EM) (lo hi : OM) : EM := fun e M => thn1 (a e M) fun d M1 => thn1 (lo e M1) fun l M2 => thn1 (hi e M2) fun u M3 => pur (slD M3 d l u) M3
def rSlD (K : PySem.W.Frag) : V → Option Int → Option Int → Hp → VK → Prop := fun x lo hi H Q => rSlA K x lo hi H Q ∨ (rSlL K x lo hi H Q ∨ (∃ z, x = .str z ∧ z.length ≤ sizeLine ∧ Q (.str (cutS z lo hi)) H))
theorem cutV_eq (xs : List V) (lo hi : Option Int) : cutV xs lo hi = cutL xs lo hi := rfl
theorem Dvs.cutL {w : Ws} {xs : List V} {ds : List Dt} (h : Dvs K W w xs ds) (lo hi : Option Int) : Dvs K W w (DL.cutL xs lo hi) (DL.cutL ds lo hi) := by
  unfold DL.cutL
  rw [h.length]
  exact (h.drop _).take _
theorem cutL_whole {α : Type} (xs : List α) (lo hi : Option Int) (h : HT.sIx xs.length 0 lo = 0 ∧ HT.sIx xs.length xs.length hi = xs.length) : cutL xs lo hi = xs := by
  unfold cutL
  rw [h.1, h.2]
  simp
theorem sl_any : SlR X (rSlD X.K) := sl_tupA.or (sl_list.or sl_str)
theorem re_sl {e : Expr} {lo hi : Option Expr} {p2 pos : Pos} {ma : EM} {ml mh : OM} (he : RE X e ma) (hl : RO X lo ml) (hh : RO X hi mh) : RE X (.Subscript e (.Slice lo hi none p2) pos) (slE ma ml mh) := by
  refine pe_weak (pe_slice sl_any he hl hh) fun σ H Q q => ?_
  obtain ⟨w, sl, d, M', rfl, ok, er, hm, f⟩ := q
  obtain ⟨a, M1, h1, hm⟩ := thn1_eq hm
  obtain ⟨l, M2, h2, hm⟩ := thn1_eq hm
  obtain ⟨u, M3, h3, hm⟩ := thn1_eq hm
  replace hm := pur_eq hm
  obtain ⟨rfl, hm⟩ := hm
  refine ⟨w, sl, a, M1, rfl, ok, er, h1, fun w1 v hM1 ok1 x1 r => ?_⟩
  refine ⟨w1, sl, l, M2, rfl, ok1, er.mono x1, by rw [hM1]; exact h2, fun w2 hM2 ok2 x2 => ?_⟩
  refine ⟨w2, sl, u, M', rfl, ok2, (er.mono x1).mono x2, by rw [hM2]; exact h3, fun w3 hM3 ok3 x3 => ?_⟩
  have r3 := (r.mono x2).mono x3
  have f3 : Fin1 X.K X.w w3 d w3.M Q := by rw [hM3]; exact f.after ((x1.trans x2).trans x3)
  rw [← hM3] at hm
  cases r3 with
  | @tup p xs ds hs rs =>
    simp only [slD, Option.some.injEq] at hm
    subst hm
    refine .inl ⟨p, xs, rfl, hs, fun hw => ?_, fun _ => ?_⟩
    · rw [cutL_whole ds l u (by rw [← rs.length]; exact hw)] at f3
      exact fin_here f3 ok3 (.tup hs rs)
    · exact fin_tup ok3 (rs.cutL l u) f3
  | str z =>
    simp only [slD] at hm
    split at hm
    · rename_i hz
      cases hm
      exact .inr (.inr ⟨z, rfl, hz, fin_here f3 ok3 (.str _)⟩)
    · cases hm
  | @lst p xs ds hs n rs =>
    simp only [slD, seqAt, Option.map_some, Option.some.injEq] at hm
    subst hm
    exact .inr (.inl ⟨p, xs, rfl, SqL.of hs, fin_lst ok3 (rs.cutL l u) f3⟩)
  | @lstK p xs ds hs rs =>
    simp only [slD, seqAt, Option.map_some, Option.some.injEq] at hm
    subst hm
    exact .inr (.inl ⟨p, xs, rfl, hs.sq, fin_lst ok3 (rs.cutL l u) f3⟩)
  | @ref i a hr =>
    simp only [slD] at hm
    cases e : seqAt w3.M (.ref i) with
    | none => rw [e] at hm; cases hm
    | some ds =>
      rw [e] at hm
      simp only [Option.map_some, Option.some.injEq] at hm
      subst hm
      simp only [seqAt] at e
      split at e
      · rename_i es hc
        cases e
        obtain ⟨xs, hx, q⟩ := ok3.cells _ _ _ hr hc
        exact .inr (.inl ⟨_, xs, rfl, SqL.of hx, fin_lst ok3 (q.cutL l u) f3⟩)
      · cases e
  | _ => simp [slD, seqAt] at hm

/-! ### built-ins -/
def pureF (g : List Dt → Option Dt) : FM := fun ds M => pur (g ds) M
def lenD (M : Mem) : Dt → Option Nat
  | .str x => if x.length ≤ sizeLine then some x.length else none
  | d => (seqAt M d).map (·.length)
def lenF : FM := fun ds M => match ds with
  | [d] => pur ((lenD M d).map fun (n : Nat) => Dt.int (n : Int)) M
  | _ => none
theorem len_ok : C1Ok K W (fun xs H Q => ∃ x n, xs = [x] ∧ LenV K x H n ∧ Q (.int n) H) lenF := by
  intro w xs ds d M' Q ok r h f
  cases r with
  | nil => simp [lenF] at h
  | @cons x xs a ds rx r =>
    cases r with
    | cons _ _ => simp [lenF] at h
    | nil =>
      replace h := pur_eq h
      obtain ⟨rfl, h⟩ := h
      obtain ⟨n, hn, rfl⟩ := Option.map_eq_some_iff.mp h
      refine ⟨x, n, rfl, ?_, fin_here f ok (.int _)⟩
      cases a with
      | str z =>
        simp only [lenD] at hn
        split at hn
        · rename_i hz
          cases hn
          cases rx
          exact ⟨hz, rfl⟩
        · cases hn
      | _ =>
        simp only [lenD, Option.map_eq_some_iff] at hn
        obtain ⟨es, he, rfl⟩ := hn
        obtain ⟨p, ys, rfl, q, rs⟩ := seqAt_ok ok rx he
        rcases q with q | q
        · exact .inl ⟨ys, q, by rw [rs.length]⟩
        · exact .inr ⟨ys, q, by rw [rs.length]⟩
def absF : List Dt → Option Dt
  | [.int i] => some (.int (if i < 0 then -i else i))
  | _ => none
theorem one_arg {w : Ws} {xs : List V} {d : Dt} (r : Dvs K W w xs [d]) : ∃ x, xs = [x] ∧ Dv K W w x d := by
  cases r with
  | cons r1 r2 => cases r2; exact ⟨_, rfl, r1⟩
theorem abs_ok : C1Ok K W (fun xs H Q => ∃ i, xs = [.int i] ∧ Q (.int (if i < 0 then -i else i)) H) (pureF absF) := by
  intro w xs ds d M' Q ok r h f
  replace h := pur_eq h
  obtain ⟨rfl, h⟩ := h
  unfold absF at h
  split at h
  · cases h
    obtain ⟨x, rfl, rx⟩ := one_arg r
    cases rx
    exact ⟨_, rfl, fin_here f ok (.int _)⟩
  · cases h
def intF : List Dt → Option Dt
  | [.int i] => some (.int i)
  | [.bl b] => some (.int (if b then 1 else 0))
  | _ => none
theorem int_ok : C1Ok K W (fun xs H Q => (∃ i, xs = [.int i] ∧ Q (.int i) H) ∨ ∃ k, xs = [.bl k] ∧ Q (.int (if k then 1 else 0)) H) (pureF intF) := by
  intro w xs ds d M' Q ok r h f
  replace h := pur_eq h
  obtain ⟨rfl, h⟩ := h
  unfold intF at h
  split at h
  · cases h
    obtain ⟨x, rfl, rx⟩ := one_arg r
    cases rx
    exact .inl ⟨_, rfl, fin_here f ok (.int _)⟩
  · cases h
    obtain ⟨x, rfl, rx⟩ := one_arg r
    cases rx
    exact .inr ⟨_, rfl, fin_here f ok (.int _)⟩
  · cases h
def minF : List Dt → Option Dt
  | [.int i, .int j] => some (.int (if j < i then j else i))
  | _ => none
def maxF : List Dt → Option Dt
  | [.int i, .int j] => some (.int (if j > i then j else i))
  | _ => none
theorem two_args {w : Ws} {xs : List V} {d e : Dt} (r : Dvs K W w xs [d, e]) : ∃ x y, xs = [x, y] ∧ Dv K W w x d ∧ Dv K W w y e := by
  cases r with
  | cons r1 r2 =>
    obtain ⟨y, rfl, r3⟩ := one_arg r2
    exact ⟨_, _, rfl, r1, r3⟩
theorem min_ok : C1Ok K W (fun xs H Q => ∃ i j, xs = [.int i, .int j] ∧ Q (.int (if j < i then j else i)) H) (pureF minF) := by
  intro w xs ds d M' Q ok r h f
  replace h := pur_eq h
  obtain ⟨rfl, h⟩ := h
  unfold minF at h
  split at h
  · cases h
    obtain ⟨x, y, rfl, rx, ry⟩ := two_args r
    cases rx
    cases ry
    exact ⟨_, _, rfl, fin_here f ok (.int _)⟩
  · cases h
theorem max_ok : C1Ok K W (fun xs H Q => ∃ i j, xs = [.int i, .int j] ∧ Q (.int (if j > i then j else i)) H) (pureF maxF) := by
  intro w xs ds d M' Q ok r h f
  replace h := pur_eq h
  obtain ⟨rfl, h⟩ := h
  unfold maxF at h
  split at h
  · cases h
    obtain ⟨x, y, rfl, rx, ry⟩ := two_args r
    cases rx
    cases ry
    exact ⟨_, _, rfl, fin_here f ok (.int _)⟩
  · cases h
/-- all, any over a list of bools -/
def toBl : Dt → Option Bool
  | .bl b => some b
  | _ => none
def toBls : List Dt → Option (List Bool)
  | [] => some []
  | d :: ds => match toBl d, toBls ds with
    | some b, some bs => some (b :: bs)
    | _, _ => none
theorem Dvs.bls {w : Ws} : ∀ {xs : List V} {ds : List Dt} {bs : List Bool}, Dvs K W w xs ds → toBls ds = some bs → xs = bs.map V.bl
  | _, _, _, .nil, h => by simp [toBls] at h; subst h; rfl
  | _, _, _, @Dvs.cons _ _ _ x xs d ds r t, h => by
    unfold toBls at h
    cases r with
    | bl b =>
      cases e : toBls ds with
      | none => simp [toBl, e] at h
      | some bs =>
        simp [toBl, e] at h
        subst h
        rw [List.map_cons, t.bls e]
    | _ => simp [toBl] at h
def lstAt (M : Mem) : Dt → Option (List Dt)
  | .lst ds => some ds
  | .lsk ds => some ds
  | .ref i => match M[i]? with
    | some (some (.lst ds)) => some ds
    | _ => none
  | _ => none
theorem lstAt_ok {w : Ws} {d : Dt} {v : V} {ds : List Dt} (ok : Ok K W w) (r : Dv K W w v d) (h : lstAt w.M d = some ds) : ∃ a xs, v = .ref a ∧ SqL K w.H a xs ∧ Dvs K W w xs ds := by
  cases r with
  | lst h1 _ h2 => simp only [lstAt, Option.some.injEq] at h; subst h; exact ⟨_, _, rfl, SqL.of h1, h2⟩
  | lstK h1 h2 => simp only [lstAt, Option.some.injEq] at h; subst h; exact ⟨_, _, rfl, h1.sq, h2⟩
  | ref hr =>
    simp only [lstAt] at h
    split at h
    · rename_i es hc
      cases h
      obtain ⟨xs, hx, q⟩ := ok.cells _ _ _ hr hc
      exact ⟨_, _, rfl, SqL.of hx, q⟩
    · cases h
  | _ => simp [lstAt] at h
def allF : FM := fun ds M => match ds with
  | [d] => pur (((lstAt M d).bind toBls).map fun bs => .bl (bs.all id)) M
  | _ => none
def anyF : FM := fun ds M => match ds with
  | [d] => pur (((lstAt M d).bind toBls).map fun bs => .bl (bs.any id)) M
  | _ => none
theorem all_ok : C1Ok K W (rAll K) allF := by
  intro w xs ds d M' Q ok r h f
  cases r with
  | nil => simp [allF] at h
  | @cons x xs a ds rx r =>
    cases r with
    | cons _ _ => simp [allF] at h
    | nil =>
      replace h := pur_eq h
      obtain ⟨rfl, h⟩ := h
      obtain ⟨bs, hb, rfl⟩ := Option.map_eq_some_iff.mp h
      cases e : lstAt w.M a with
      | none => rw [e] at hb; cases hb
      | some es =>
        rw [e] at hb
        obtain ⟨p, ys, rfl, q, rs⟩ := lstAt_ok ok rx e
        have hy := rs.bls hb
        subst hy
        exact ⟨p, bs, rfl, q, fin_here f ok (.bl _)⟩
theorem any_ok : C1Ok K W (rAny K) anyF := by
  intro w xs ds d M' Q ok r h f
  cases r with
  | nil => simp [anyF] at h
  | @cons x xs a ds rx r =>
    cases r with
    | cons _ _ => simp [anyF] at h
    | nil =>
      replace h := pur_eq h
      obtain ⟨rfl, h⟩ := h
      obtain ⟨bs, hb, rfl⟩ := Option.map_eq_some_iff.mp h
      cases e : lstAt w.M a with
      | none => rw [e] at hb; cases hb
      | some es =>
        rw [e] at hb
        obtain ⟨p, ys, rfl, q, rs⟩ := lstAt_ok ok rx e
        have hy := rs.bls hb
        subst hy
        exact ⟨p, bs, rfl, q, fin_here f ok (.bl _)⟩
/-- tuple(x), list(x) of a list or a tuple -/
def tupleF : FM := fun ds M => match ds with
  | [d] => pur ((seqAt M d).map .tup) M
  | _ => none
theorem tuple_ok : C1Ok K W (fun xs H Q => ∃ p ys, xs = [.ref p] ∧ ((SqL K H p ys ∧ ∀ l, H l = none → Q (.ref l) (upd H l (.tup ys))) ∨ (SqT K H p ys ∧ Q (.ref p) H))) tupleF := by
  intro w xs ds d M' Q ok r h f
  cases r with
  | nil => simp [tupleF] at h
  | @cons x xs a ds rx r =>
    cases r with
    | cons _ _ => simp [tupleF] at h
    | nil =>
      replace h := pur_eq h
      obtain ⟨rfl, h⟩ := h
      obtain ⟨es, he, rfl⟩ := Option.map_eq_some_iff.mp h
      obtain ⟨p, ys, rfl, q, rs⟩ := seqAt_ok ok rx he
      rcases q with q | q
      · exact ⟨p, ys, rfl, .inl ⟨q, fin_tup ok rs f⟩⟩
      · exact ⟨p, ys, rfl, .inr ⟨q, fin_here f ok (.tup q rs)⟩⟩
def listF : FM := fun ds M => match ds with
  | [d] => pur ((seqAt M d).map .lst) M
  | _ => none
theorem list_ok : C1Ok K W (fun xs H Q => ∃ p ys, xs = [.ref p] ∧ (SqL K H p ys ∨ SqT K H p ys) ∧ ∀ l, H l = none → Q (.ref l) (upd H l (.lst ys))) listF := by
  intro w xs ds d M' Q ok r h f
  cases r with
  | nil => simp [listF] at h
  | @cons x xs a ds rx r =>
    cases r with
    | cons _ _ => simp [listF] at h
    | nil =>
      replace h := pur_eq h
      obtain ⟨rfl, h⟩ := h
      obtain ⟨es, he, rfl⟩ := Option.map_eq_some_iff.mp h
      obtain ⟨p, ys, rfl, q, rs⟩ := seqAt_ok ok rx he
      exact ⟨p, ys, rfl, q, fin_lst ok rs f⟩
/-- list(x), to be changed -/
def listC : FM := fun ds M => match ds with
  | [d] => match seqAt M d with
    | some es => some (.ref M.length, M ++ [some (.lst es)])
    | none => none
  | _ => none
theorem listC_ok : C1Ok K W (fun xs H Q => ∃ p ys, xs = [.ref p] ∧ (SqL K H p ys ∨ SqT K H p ys) ∧ ∀ l, H l = none → Q (.ref l) (upd H l (.lst ys))) listC := by
  intro w xs ds d M' Q ok r h f
  cases r with
  | nil => simp [listC] at h
  | @cons x xs a ds rx r =>
    cases r with
    | cons _ _ => simp [listC] at h
    | nil =>
      simp only [listC] at h
      split at h
      · rename_i es he
        simp only [Option.some.injEq, Prod.mk.injEq] at h
        obtain ⟨rfl, rfl⟩ := h
        obtain ⟨p, ys, rfl, q, rs⟩ := seqAt_ok ok rx he
        exact ⟨p, ys, rfl, q, fin_cell ok rs f⟩
      · cases h

/-! ### isinstance(x, T), T built-in -/
def tyD (M : Mem) : Dt → Option String
  | .non => some "NoneType"
  | .bl _ => some "bool"
  | .int _ => some "int"
  | .str _ => some "str"
  | .tup _ => some "tuple"
  | .lst _ => some "list"
  | .lsk _ => some "list"
  | .ref i => match M[i]? with
    | some (some (.lst _)) => some "list"
    | _ => none
  | _ => none
def isiF : FM := fun ds M => match ds with
  | [d, .ty T] => pur (((tyD M d).bind fun t => kitB t T).map .bl) M
  | _ => none
theorem ty_ok {w : Ws} {d : Dt} {v : V} {t : String} (ok : Ok K W w) (r : Dv K W w v d) (h : tyD w.M d = some t) : TyX K w.H v (.type t) := by
  cases r with
  | non => simp only [tyD, Option.some.injEq] at h; subst h; exact .base .non
  | bl b => simp only [tyD, Option.some.injEq] at h; subst h; exact .base (.bl b)
  | int i => simp only [tyD, Option.some.injEq] at h; subst h; exact .base (.int i)
  | str x => simp only [tyD, Option.some.injEq] at h; subst h; exact .base (.str x)
  | tup h1 h2 =>
    simp only [tyD, Option.some.injEq] at h
    subst h
    rcases h1 with (h1 | ⟨o, h1⟩) | ⟨o, its, n, hk, hc, _⟩
    · exact .base (.tup h1)
    · exact .fTuple h1
    · exact .kTuple hk hc
  | lst h1 _ h2 => simp only [tyD, Option.some.injEq] at h; subst h; exact .base (.lst h1)
  | lstK h1 h2 =>
    simp only [tyD, Option.some.injEq] at h
    subst h
    rcases h1 with ⟨o, h1⟩ | ⟨o, its, n, hk, hc, _⟩
    · exact .base (.frz h1)
    · exact .kList hk hc
  | ref hr =>
    simp only [tyD] at h
    split at h
    · rename_i ds hc
      cases h
      obtain ⟨xs, hx, q⟩ := ok.cells _ _ _ hr hc
      exact .base (.lst hx)
    · cases h
  | _ => simp [tyD] at h
theorem isi_ok : C1Ok K W (rIsi K) isiF := by
  intro w xs ds d M' Q ok r h f
  unfold isiF at h
  split at h
  · rename_i a T
    replace h := pur_eq h
    obtain ⟨rfl, h⟩ := h
    obtain ⟨b, hb, rfl⟩ := Option.map_eq_some_iff.mp h
    obtain ⟨x, y, rfl, rx, ry⟩ := two_args r
    cases ry
    cases e : tyD w.M a with
    | none => rw [e] at hb; cases hb
    | some t =>
      rw [e] at hb
      exact ⟨x, .ty T, .type t, .type T, b, rfl, .ty T, ty_ok ok rx e, kit_ty hb, fin_here f ok (.bl _)⟩
  · cases h
@[simp] theorem kitB_self (t : String) : kitB t t = some true := by
  unfold kitB
  rw [if_pos (by simp)]
@[simp] theorem kitB_1 : kitB "NoneType" "tuple" = some false := by decide +kernel
@[simp] theorem kitB_2 : kitB "bool" "tuple" = some false := by decide +kernel
@[simp] theorem kitB_3 : kitB "int" "tuple" = some false := by decide +kernel
@[simp] theorem kitB_4 : kitB "str" "tuple" = some false := by decide +kernel
@[simp] theorem kitB_5 : kitB "list" "tuple" = some false := by decide +kernel
@[simp] theorem kitB_6 : kitB "NoneType" "str" = some false := by decide +kernel
@[simp] theorem kitB_7 : kitB "bool" "str" = some false := by decide +kernel
@[simp] theorem kitB_8 : kitB "int" "str" = some false := by decide +kernel
@[simp] theorem kitB_9 : kitB "tuple" "str" = some false := by decide +kernel
@[simp] theorem kitB_10 : kitB "list" "str" = some false := by decide +kernel
@[simp] theorem kitB_11 : kitB "NoneType" "int" = some false := by decide +kernel
@[simp] theorem kitB_12 : kitB "bool" "int" = some true := by decide +kernel
@[simp] theorem kitB_13 : kitB "str" "int" = some false := by decide +kernel
@[simp] theorem kitB_14 : kitB "tuple" "int" = some false := by decide +kernel
@[simp] theorem kitB_15 : kitB "list" "int" = some false := by decide +kernel
@[simp] theorem kitB_16 : kitB "NoneType" "bool" = some false := by decide +kernel
@[simp] theorem kitB_17 : kitB "int" "bool" = some false := by decide +kernel
@[simp] theorem kitB_18 : kitB "str" "bool" = some false := by decide +kernel
@[simp] theorem kitB_19 : kitB "tuple" "bool" = some false := by decide +kernel
@[simp] theorem kitB_20 : kitB "list" "bool" = some false := by decide +kernel
@[simp] theorem kitB_21 : kitB "NoneType" "list" = some false := by decide +kernel
@[simp] theorem kitB_22 : kitB "bool" "list" = some false := by decide +kernel
@[simp] theorem kitB_23 : kitB "int" "list" = some false := by decide +kernel
@[simp] theorem kitB_24 : kitB "str" "list" = some false := by decide +kernel
@[simp] theorem kitB_25 : kitB "tuple" "list" = some false := by decide +kernel
end
end DL
/-! The data layer, part e: dicts whose keys are data of any kind. -/
namespace DL
open PySem PySem.Spec PyProof.Rows L2

section
variable {prog : Program} {w : World} {A : Around} {E : Value → Shared → Prop} {s : Shared}
/-- where a key stands -/
def ixK (n : NestedKey) (ns : List NestedKey) : Option Nat := ns.findIdx? fun m => decide (m = n)
theorem ixK_some {n : NestedKey} {ns : List NestedKey} {i : Nat} (nd : ns.Nodup) (h : ns[i]? = some n) : ixK n ns = some i := by
  unfold ixK
  rw [List.findIdx?_eq_some_iff_getElem]
  obtain ⟨hi, e⟩ := List.getElem?_eq_some_iff.mp h
  refine ⟨hi, by simp [e], fun j hj => ?_⟩
  have hj' : j < ns.length := Nat.lt_trans hj hi
  simp only [decide_eq_true_eq, Bool.not_eq_true, decide_eq_false_iff_not]
  intro e2
  have e3 : ns[j]? = ns[i]? := by rw [List.getElem?_eq_getElem hj', h, e2]
  have := (List.getElem?_inj hj' nd).mp e3
  omega
theorem ixK_none {n : NestedKey} {ns : List NestedKey} (h : ∀ i : Nat, ns[i]? ≠ some n) : ixK n ns = none := by
  unfold ixK
  rw [List.findIdx?_eq_none_iff]
  intro m hm
  simp only [decide_eq_false_iff_not]
  rintro rfl
  obtain ⟨i, hi⟩ := List.mem_iff_getElem?.mp hm
  exact h i hi
/-- the entries of a dict and its keys -/
structure Ents (w : World) (h : Heap) (es : Array DictEntry) (ns : List NestedKey) : Prop where
  sz : es.size = ns.length
  key : ∀ (i : Nat) (e : DictEntry), es[i]? = some e → ∃ n, ns[i]? = some n ∧ NestedIs h n e.key ∧ e.hash = n.hash w
  nd : ns.Nodup
  dp : ∀ n ∈ ns, n.depth ≤ 8
theorem keyPlain {h : Heap} {n : NestedKey} {x : Str} {v : Value} (r : NestedIs h n v) : v.isStr x = decide (n = .text x) := by
  cases r with
  | text y t =>
    by_cases e : y = x
    · subst e; simp [Value.isStr]
    · have e2 : ¬ NestedKey.text y = .text x := fun z => e (NestedKey.text.inj z)
      simp [Value.isStr, e]
  | _ => simp [Value.isStr]
theorem same_key {x y : NestedKey} {a b : Value} {Q : Bool → Shared → Prop} (hx : NestedIs s.heap x a) (hy : NestedIs s.heap y b) (hd : x.depth ≤ 8) (hu : A.units + 8 < cLine) (h : Q (decide (x = y)) s) : wpAny (model prog w) A (eqBool a b) Q E s :=
  eqAt_key x y A s a b hx hy (by omega) _ _ _ _ (by rw [← NestedKey.decide_eq]; exact h)
theorem find_str {d : Addr} {o : Obj} {es : Array DictEntry} {ep : Nat} {ns : List NestedKey} {x : Str} {t : Tok} {Q : Option Nat → Shared → Prop} (hu : A.units + 8 < cLine) (ho : s.heap.get? d = some o) (hd : o.data = .dict es ep) (en : Ents w s.heap es ns)
    (h : Q (ixK (.text x) ns) s) : wpAny (model prog w) A (foundByValue d (.str x t) es x) Q E s := by
  have ei : es.findIdx? (·.key.isStr x) = ixK (.text x) ns := by
    have e1 : es.findIdx? (·.key.isStr x) = es.toList.findIdx? (·.key.isStr x) := by
      obtain ⟨l⟩ := es
      simp
    rw [e1]
    unfold ixK
    have hl : es.toList.length = ns.length := by rw [Array.length_toList]; exact en.sz
    have hk : ∀ (i : Nat) (e : DictEntry), es.toList[i]? = some e → ∃ n, ns[i]? = some n ∧ e.key.isStr x = decide (n = .text x) := fun i e he => by
      obtain ⟨n, h1, h2, _⟩ := en.key i e (by rw [← Array.getElem?_toList]; exact he)
      exact ⟨n, h1, keyPlain h2⟩
    clear h en hd e1
    generalize es.toList = l at hl hk
    induction l generalizing ns with
    | nil =>
      cases ns with
      | nil => rfl
      | cons _ _ => cases hl
    | cons e l ih =>
      cases ns with
      | nil => cases hl
      | cons n ns =>
        obtain ⟨n', h1, h2⟩ := hk 0 e rfl
        simp only [List.getElem?_cons_zero, Option.some.injEq] at h1
        subst h1
        rw [List.findIdx?_cons, List.findIdx?_cons, h2, ih (by simpa using hl) fun i e' he => hk (i + 1) e' (by simpa using he)]
  unfold foundByValue
  rw [ei]
  cases hi : ixK (.text x) ns with
  | none =>
    rw [hi] at h
    exact wpAny_pure h
  | some i =>
    rw [hi] at h
    have hi' := hi
    unfold ixK at hi'
    rw [List.findIdx?_eq_some_iff_getElem] at hi'
    obtain ⟨hlt, hn, _⟩ := hi'
    simp only [decide_eq_true_eq] at hn
    have hlt2 : i < es.size := by rw [en.sz]; exact hlt
    have he : es[i]? = some es[i] := Array.getElem?_eq_getElem hlt2
    dsimp only
    rw [he]
    obtain ⟨n, h1, h2, h3⟩ := en.key i _ he
    have : n = .text x := by
      rw [List.getElem?_eq_getElem hlt] at h1
      cases h1
      exact hn
    subst this
    refine wpAny_bind (wpAny_dictEpoch ho hd (wpAny_bind (same_key h2 (.text x t) (Nat.zero_le _) hu (wpAny_bind (wpAny_dictEpoch ho hd ?_)))))
    simp only [bne_self_eq_false, Bool.false_eq_true, if_false, decide_true, if_true]
    exact wpAny_bind (wpAny_rule (wpAny_pure h))
/-- the places that are looked at -/
theorem places_mem {es : Array DictEntry} {h : Int} {i : Nat} : i ∈ placesWithHash es.size (fun i => es[i]?.map (·.hash)) h ↔ ∃ e, es[i]? = some e ∧ e.hash = h := by
  unfold placesWithHash
  rw [List.mem_filter, List.mem_range]
  constructor
  · rintro ⟨h1, h2⟩
    refine ⟨es[i], Array.getElem?_eq_getElem h1, ?_⟩
    dsimp only at h2
    rw [Array.getElem?_eq_getElem h1] at h2
    simpa using h2
  · rintro ⟨e, h1, h2⟩
    refine ⟨(Array.getElem?_eq_some_iff.mp h1).1, ?_⟩
    dsimp only
    rw [h1]
    simp [h2]
theorem places_nd {es : Array DictEntry} {h : Int} : (placesWithHash es.size (fun i => es[i]?.map (·.hash)) h).Nodup := List.nodup_range.sublist List.filter_sublist
/-- none of the places looked at holds the key: it is nowhere -/
theorem Ents.nowhere {h : Heap} {es : Array DictEntry} {ns : List NestedKey} {n : NestedKey} (en : Ents w h es ns) (no : ∀ i ∈ placesWithHash es.size (fun i => es[i]?.map (·.hash)) (n.hash w), ns[i]? ≠ some n) : ixK n ns = none := by
  refine ixK_none fun i hi => ?_
  have hl : i < es.size := by rw [en.sz]; exact (List.getElem?_eq_some_iff.mp hi).1
  obtain ⟨m, h1, _, h3⟩ := en.key i _ (Array.getElem?_eq_getElem hl)
  rw [hi] at h1
  cases h1
  exact no i (places_mem.mpr ⟨_, Array.getElem?_eq_getElem hl, h3⟩) hi
theorem find_plain {d : Addr} {o : Obj} {es : Array DictEntry} {ep : Nat} {ns : List NestedKey} {n : NestedKey} {u : Value} {Q : Option Nat → Shared → Prop} (hu : A.units + 8 < cLine) (ho : s.heap.get? d = some o) (hd : o.data = .dict es ep) (en : Ents w s.heap es ns) (hk : NestedIs s.heap n u)
    (h : Q (ixK n ns) s) : wpAny (model prog w) A (dictWalkPlain d u (n.hash w) es (placesWithHash es.size (fun i => es[i]?.map (·.hash)) (n.hash w))) Q E s := by
  generalize hP : placesWithHash es.size (fun i => es[i]?.map (·.hash)) (n.hash w) = P
  have hm : ∀ i ∈ P, ∃ e, es[i]? = some e ∧ e.hash = n.hash w := fun i hi => places_mem.mp (hP ▸ hi)
  have hno : (∀ i ∈ P, ns[i]? ≠ some n) → ixK n ns = none := fun q => en.nowhere fun i hi => q i (hP ▸ hi)
  clear hP
  unfold dictWalkPlain
  refine wpAny_bind ?_
  refine wpAny_forIn_list _ (fun left r s' => s' = s ∧ r = (none, ()) ∧ ∃ seen, P = seen ++ left ∧ ∀ i ∈ seen, ns[i]? ≠ some n) _ ?_ ?_ _ _ ⟨rfl, rfl, [], rfl, fun _ hi => by cases hi⟩
  · rintro i left r s' ⟨rfl, rfl, seen, rfl, hs⟩
    obtain ⟨e, he, hh⟩ := hm i (by simp)
    obtain ⟨m, h1, h2, h3⟩ := en.key i e he
    have next : m ≠ n → ∀ j ∈ seen ++ [i], ns[j]? ≠ some n := fun hne j hj => by
      rcases List.mem_append.mp hj with hj | hj
      · exact hs j hj
      · have : j = i := by simpa using hj
        subst this
        rw [h1]
        exact fun z => hne (Option.some.inj z)
    rw [he]
    dsimp only
    rw [if_pos (by simp [hh])]
    refine wpAny_bind (wpAny_dictEpoch ho hd (wpAny_bind (same_key h2 hk (en.dp m (List.mem_of_getElem? h1)) hu (wpAny_bind (wpAny_dictEpoch ho hd ?_)))))
    simp only [bne_self_eq_false, Bool.false_eq_true, if_false]
    by_cases hmn : m = n
    · subst hmn
      simp only [decide_true, if_true]
      rw [ixK_some en.nd h1] at h
      exact wpAny_bind (wpAny_rule (wpAny_pure (wpAny_pure h)))
    · simp only [hmn, decide_false, Bool.false_eq_true, if_false]
      exact wpAny_bind (wpAny_rule (wpAny_pure ⟨rfl, rfl, seen ++ [i], by simp, next hmn⟩))
  · rintro r s' ⟨rfl, rfl, seen, hp, hs⟩
    rw [List.append_nil] at hp
    subst hp
    rw [hno hs] at h
    exact wpAny_pure h
theorem quiet_all {P : List Value} {ns : List NestedKey} (h : ∀ v ∈ P, ∃ n, NestedIs s.heap n v ∧ n.depth ≤ 8) {Q : Bool → Shared → Prop} {u : Value} {n : NestedKey} (hk : NestedIs s.heap n u) (hd : n.depth ≤ 8) (q : Q false s) : wpAny (model prog w) A (tableMayTell u P) Q E s := by
  unfold tableMayTell
  split
  · exact wpAny_pure q
  · refine wpAny_bind (quiet_key n u 8 s hk hd A E _ ?_)
    simp only [Bool.not_true, Bool.false_eq_true, if_false]
    refine wpAny_bind ?_
    refine wpAny_forIn_list _ (fun left r s' => s' = s ∧ r = (none, ()) ∧ ∀ v ∈ left, ∃ n, NestedIs s.heap n v ∧ n.depth ≤ 8) _ ?_ ?_ _ _ ⟨rfl, rfl, h⟩
    · rintro v left r s' ⟨rfl, rfl, hv⟩
      obtain ⟨m, h1, h2⟩ := hv v (by simp)
      refine wpAny_bind (quiet_key m v 8 s' h1 h2 A E _ ?_)
      simp only [Bool.not_true, Bool.false_eq_true, if_false]
      exact wpAny_pure ⟨rfl, rfl, fun x hx => hv x (by simp [hx])⟩
    · rintro r s' ⟨rfl, rfl, _⟩
      exact wpAny_pure q
/-- THE SEARCH -/
theorem find_any {d : Addr} {o : Obj} {es : Array DictEntry} {ep : Nat} {ns : List NestedKey} {n : NestedKey} {u : Value} {Q : Option Nat → Shared → Prop} (hu : A.units + 8 < cLine) (ho : s.heap.get? d = some o) (hd : o.data = .dict es ep) (en : Ents w s.heap es ns) (hk : NestedIs s.heap n u) (hdp : n.depth ≤ 8)
    (h : Q (ixK n ns) s) : wpAny (model prog w) A (dictFind d u (n.hash w)) Q E s := by
  unfold dictFind
  try with_reducible refine wpAny_holding ?_
  refine wpAny_bind (wpAny_dictEntries ho hd ?_)
  by_cases hs : ∃ x t, u = .str x t ∧ (es.all fun e => isExactStrKey e.key) = true
  · obtain ⟨x, t, rfl, ha⟩ := hs
    cases hk
    dsimp only
    rw [if_pos ha]
    exact find_str hu ho hd en h
  · generalize hP : placesWithHash es.size (fun i => es[i]?.map (·.hash)) (n.hash w) = P
    have fp : (u :: P.filterMap fun i => es[i]?.map (·.key)).all carriedByValue = true → wpAny (model prog w) A (dictWalkPlain d u (n.hash w) es P) Q E s := fun _ => by
      rw [← hP]
      exact find_plain hu ho hd en hk h
    have hm : ∀ i ∈ P, ∃ e, es[i]? = some e ∧ e.hash = n.hash w := fun i hi => places_mem.mp (hP ▸ hi)
    have hno : (∀ i ∈ P, ns[i]? ≠ some n) → ixK n ns = none := fun q => en.nowhere fun i hi => q i (hP ▸ hi)
    have hnd : P.Nodup := hP ▸ places_nd
    have hq : ∀ v ∈ P.filterMap (fun i => es[i]?.map (·.key)), ∃ m, NestedIs s.heap m v ∧ m.depth ≤ 8 := fun v hv => by
      obtain ⟨i, _, hi⟩ := List.mem_filterMap.mp hv
      cases he : es[i]? with
      | none => rw [he] at hi; cases hi
      | some e =>
        rw [he] at hi
        cases hi
        obtain ⟨m, h1, h2, _⟩ := en.key i e he
        exact ⟨m, h2, en.dp m (List.mem_of_getElem? h1)⟩
    have hany : ¬ (es.any fun e => e.key == u && e.hash != n.hash w) = true := by
      rw [← Array.any_toList, List.any_eq_true]
      rintro ⟨e, he, hc⟩
      simp only [Bool.and_eq_true, beq_iff_eq, bne_iff_ne, ne_eq] at hc
      obtain ⟨i, hi⟩ := List.mem_iff_getElem?.mp he
      rw [Array.getElem?_toList] at hi
      obtain ⟨m, _, h2, h3⟩ := en.key i e hi
      rw [hc.1] at h2
      rw [NestedIs.inj _ _ _ h2 hk] at h3
      exact hc.2 h3
    clear hP
    by_cases hc : (u :: P.filterMap fun i => es[i]?.map (·.key)).all carriedByValue = true
    · cases u <;> dsimp only <;> (first | rw [if_neg (fun z => hs ⟨_, _, rfl, z⟩)] | skip) <;> (
        rw [if_pos hc]
        exact fp hc)
    by_cases h1 : ((P.filterMap fun i => es[i]?.map (·.key)) == [u]) = true <;> cases u <;> dsimp only <;> (first | rw [if_neg (fun z => hs ⟨_, _, rfl, z⟩)] | skip) <;> (
      rw [if_neg hc]
      first | rw [if_neg hany] | skip
      (first | rw [if_pos h1] | rw [if_neg h1]) <;> (first | refine wpAny_bind (wpAny_pure ?_) | refine wpAny_bind (quiet_all (ns := ns) hq hk hdp ?_)) <;> (
        simp only [Bool.false_and, Bool.false_eq_true, if_false]
        refine wpAny_bind ?_
        refine wpAny_forIn_list _ (fun left r s' => s' = s ∧ r.1 = none ∧ ∃ seen, P = seen ++ left ∧ ((r.2 = none ∧ ∀ i ∈ seen, ns[i]? ≠ some n) ∨ ∃ i ∈ seen, r.2 = some i ∧ ns[i]? = some n)) _ ?_ ?_ _ _ ⟨rfl, rfl, [], rfl, .inl ⟨rfl, fun _ hi => by cases hi⟩⟩
        · rintro i left ⟨r1, r2⟩ s' ⟨rfl, hr1, seen, rfl, hs2⟩
          simp only at hr1 hs2
          subst hr1
          obtain ⟨e, he, hh⟩ := hm i (by simp)
          obtain ⟨m, k1, k2, k3⟩ := en.key i e he
          rw [he]
          dsimp only
          rw [if_pos (by simp [hh])]
          refine wpAny_bind (wpAny_dictEpoch ho hd (wpAny_bind (same_key k2 hk (en.dp m (List.mem_of_getElem? k1)) hu (wpAny_bind (wpAny_dictEpoch ho hd ?_)))))
          simp only [bne_self_eq_false, Bool.false_eq_true, if_false]
          by_cases hmn : m = n
          · subst hmn
            simp only [decide_true, if_true]
            have hit : r2 = none := by
              rcases hs2 with ⟨z, _⟩ | ⟨j, hj, _, hjn⟩
              · exact z
              · exfalso
                have hjl : j < ns.length := (List.getElem?_eq_some_iff.mp hjn).1
                have e1 : j = i := (List.getElem?_inj hjl en.nd).mp (hjn.trans k1.symm)
                subst e1
                rw [List.nodup_append] at hnd
                exact hnd.2.2 j hj j (by simp) rfl
            subst hit
            simp only [Option.isSome_none, Bool.false_eq_true, if_false]
            refine wpAny_bind (wpAny_rule ?_)
            split
            · refine wpAny_pure (wpAny_pure ?_)
              rw [ixK_some en.nd k1] at h
              exact h
            · exact wpAny_pure ⟨rfl, rfl, seen ++ [i], by simp, .inr ⟨i, by simp, rfl, k1⟩⟩
          · simp only [hmn, decide_false, Bool.false_eq_true, if_false]
            refine wpAny_bind (wpAny_rule (wpAny_pure ⟨rfl, rfl, seen ++ [i], by simp, ?_⟩))
            rcases hs2 with ⟨z, hno2⟩ | ⟨j, hj, z, hjn⟩
            · refine .inl ⟨z, fun j hj => ?_⟩
              rcases List.mem_append.mp hj with hj | hj
              · exact hno2 j hj
              · have : j = i := by simpa using hj
                subst this
                rw [k1]
                exact fun y => hmn (Option.some.inj y)
            · exact .inr ⟨j, by simp [hj], z, hjn⟩
        · rintro ⟨r1, r2⟩ s' ⟨rfl, hr1, seen, hp, hs2⟩
          simp only at hr1 hs2
          rw [List.append_nil] at hp
          subst hp
          subst hr1
          refine wpAny_pure ?_
          rcases hs2 with ⟨z, hno2⟩ | ⟨j, hj, z, hjn⟩
          · rw [hno hno2] at h
            rw [z]
            exact h
          · rw [ixK_some en.nd hjn] at h
            rw [z]
            exact h))

/-- a dict at d -/
structure DAt (w : World) (h : Heap) (d : Addr) (o : Obj) (es : Array DictEntry) (ep : Nat) (ns : List NestedKey) : Prop where
  ho : h.get? d = some o
  ex : o.ExactDict
  hd : o.data = .dict es ep
  en : Ents w h es ns
  sm : (d == sysModules) = false
variable {d : Addr} {o : Obj} {es : Array DictEntry} {ep : Nat} {ns : List NestedKey} {n : NestedKey} {u : Value}
theorem DAt.ty (D : DAt w s.heap d o es ep ns) : s.TypeIs (.ref d) "dict" := ⟨o, D.ho, D.ex.1⟩
def valAtK (n : NestedKey) (ns : List NestedKey) (es : Array DictEntry) : Option Value := (ixK n ns).bind fun i => es[i]?.map (·.val)
theorem get_core {Q : Option Value → Shared → Prop} (D : DAt w s.heap d o es ep ns) (hu : A.units + 8 < cLine) (hk : NestedIs s.heap n u) (hdp : n.depth ≤ 8) (h : Q (valAtK n ns es) { s with toks := s.toks + n.draws }) :
    wpAny (model prog w) A (dictGet d u) Q E s := by
  unfold dictGet
  try with_reducible refine wpAny_holding ?_
  refine wpAny_bind (pyHash_key n u A s _ hk (by omega) (wpAny_bind (find_any (s := { s with toks := s.toks + n.draws }) hu D.ho D.hd D.en hk hdp ?_)))
  unfold valAtK at h
  cases e : ixK n ns with
  | none =>
    rw [e] at h
    exact wpAny_pure h
  | some i =>
    rw [e] at h
    exact wpAny_bind (wpAny_dictEntries (s := { s with toks := s.toks + n.draws }) D.ho D.hd (wpAny_pure h))
theorem v_contains {Q : Bool → Shared → Prop} (D : DAt w s.heap d o es ep ns) (hu : A.units + 9 < cLine) (hk : NestedIs s.heap n u) (hdp : n.depth ≤ 8) (h : Q (ixK n ns).isSome { s with toks := s.toks + n.draws }) :
    wpAny (model prog w) A (contains (.ref d) u) Q E s := by
  refine wpAny_contains_slot D.ty F.slot_dict_contains ?_
  refine call_meetsIn F.slot_dict_contains D.ty F.entry_dict_contains (F.args_dict_contains_2 _ _) (S := fun A' R s' => A' = A ∧ s' = s ∧ R (.ok (.ret (.bool (ixK n ns).isSome))) { s with toks := s.toks + n.draws }) (.of_wp fun A' R s' hS => ?_) ⟨rfl, rfl, wpAny_truthy_bool h⟩
  obtain ⟨rfl, rfl, hq⟩ := hS
  show wpAny _ _ (dictGet d u >>= _) _ _ s'
  refine wpAny_bind (get_core D (by simpa only [Around.in1_units] using hu) hk hdp ?_)
  unfold valAtK
  cases e : ixK n ns with
  | some i =>
    rw [e] at hq
    have hi : i < es.size := by
      rw [D.en.sz]
      unfold ixK at e
      rw [List.findIdx?_eq_some_iff_getElem] at e
      exact e.1
    rw [Option.bind_some, Array.getElem?_eq_getElem hi]
    exact wpAny_pure ⟨_, rfl, hq⟩
  | none =>
    rw [e] at hq
    show wpAny _ _ (Builtin.Dict.pendingKey? d u >>= _) _ _ _
    exact wpAny_bind (wpAny_pendingKey_other D.sm (wpAny_pure ⟨_, rfl, hq⟩))
theorem v_in {Q : Value → Shared → Prop} (D : DAt w s.heap d o es ep ns) (hu : A.units + 9 < cLine) (hk : NestedIs s.heap n u) (hdp : n.depth ≤ 8) (h : Q (.bool (ixK n ns).isSome) { s with toks := s.toks + n.draws }) :
    wpAny (model prog w) A (compareOp .In u (.ref d)) Q E s := by
  show wpAny _ _ (do return .bool (← contains (.ref d) u)) Q E s
  exact wpAny_bind (v_contains D hu hk hdp (wpAny_pure h))
theorem v_notIn {Q : Value → Shared → Prop} (D : DAt w s.heap d o es ep ns) (hu : A.units + 9 < cLine) (hk : NestedIs s.heap n u) (hdp : n.depth ≤ 8) (h : Q (.bool (!(ixK n ns).isSome)) { s with toks := s.toks + n.draws }) :
    wpAny (model prog w) A (compareOp .NotIn u (.ref d)) Q E s := by
  show wpAny _ _ (do return .bool (!(← contains (.ref d) u))) Q E s
  exact wpAny_bind (v_contains D hu hk hdp (wpAny_pure h))
theorem v_item {v : Value} {Q : Value → Shared → Prop} (D : DAt w s.heap d o es ep ns) (hu : A.units + 9 < cLine) (hk : NestedIs s.heap n u) (hdp : n.depth ≤ 8) (hv : valAtK n ns es = some v) (h : Q v { s with toks := s.toks + n.draws }) :
    wpAny (model prog w) A (getItem (.ref d) u) Q E s := by
  unfold getItem
  try with_reducible refine wpAny_holding ?_
  refine wpAny_bind (wpAny_sequenceKey D.ty (by decide) ?_)
  refine wpAny_bind (wpAny_callSpecial?_slot (name := Str.ofString "__getitem__") D.ty F.slot_dict_getitem
    (wpAny_call_entry F.slot_dict_getitem D.ty F.entry_dict_getitem ?_ (F.args_dict_getitem_2 _ _)))
  show wpAny _ _ (dictGet d u >>= _) _ _ s
  refine wpAny_bind (get_core D (by simpa only [Around.in1_units] using hu) hk hdp ?_)
  rw [hv]
  exact wpAny_pure ⟨v, rfl, wpAny_pure h⟩
theorem v_get1 {Q : Value → Shared → Prop} (D : DAt w s.heap d o es ep ns) (hu : A.units + 9 < cLine) (hk : NestedIs s.heap n u) (hdp : n.depth ≤ 8) (h : Q ((valAtK n ns es).getD .none) { s with toks := s.toks + n.draws }) :
    wpAny (model prog w) A (call (.builtin "dict.get") [.ref d, u]) Q E s := by
  refine call_meetsIn F.slot_dict_get D.ty F.entry_dict_get (F.args_dict_get_2 _ _) (S := fun A' R s' => A' = A ∧ s' = s ∧ R (.ok (.ret ((valAtK n ns es).getD .none))) { s with toks := s.toks + n.draws }) (.of_wp fun A' R s' hS => ?_) ⟨rfl, rfl, h⟩
  obtain ⟨rfl, rfl, hq⟩ := hS
  show wpAny _ _ (dictGet d u >>= _) _ _ s'
  refine wpAny_bind (get_core D (by simpa only [Around.in1_units] using hu) hk hdp ?_)
  cases e : valAtK n ns es with
  | some v =>
    rw [e] at hq
    exact wpAny_pure ⟨v, rfl, hq⟩
  | none =>
    rw [e] at hq
    show wpAny _ _ (Builtin.Dict.missed d u >>= _) _ _ _
    exact wpAny_bind (wpAny_missed_other D.sm (wpAny_pure ⟨.none, rfl, hq⟩))
theorem v_get2 {x : Value} {Q : Value → Shared → Prop} (D : DAt w s.heap d o es ep ns) (hu : A.units + 9 < cLine) (hk : NestedIs s.heap n u) (hdp : n.depth ≤ 8) (h : Q ((valAtK n ns es).getD x) { s with toks := s.toks + n.draws }) :
    wpAny (model prog w) A (call (.builtin "dict.get") [.ref d, u, x]) Q E s := by
  refine call_meetsIn F.slot_dict_get D.ty F.entry_dict_get (F.args_dict_get_3 _ _ _) (S := fun A' R s' => A' = A ∧ s' = s ∧ R (.ok (.ret ((valAtK n ns es).getD x))) { s with toks := s.toks + n.draws }) (.of_wp fun A' R s' hS => ?_) ⟨rfl, rfl, h⟩
  obtain ⟨rfl, rfl, hq⟩ := hS
  show wpAny _ _ (dictGet d u >>= _) _ _ s'
  refine wpAny_bind (get_core D (by simpa only [Around.in1_units] using hu) hk hdp ?_)
  cases e : valAtK n ns es with
  | some v =>
    rw [e] at hq
    exact wpAny_pure ⟨v, rfl, hq⟩
  | none =>
    rw [e] at hq
    show wpAny _ _ (Builtin.Dict.missed d u >>= _) _ _ _
    exact wpAny_bind (wpAny_missed_other D.sm (wpAny_pure ⟨x, rfl, hq⟩))
/-- the entries behind d[k] = v -/
def putEs (n : NestedKey) (ns : List NestedKey) (w : World) (u v : Value) (es : Array DictEntry) : Array DictEntry := match ixK n ns with
  | some j => es.modify j fun e => { e with val := v }
  | none => es.push ⟨n.hash w, u, v⟩
structure Put (w : World) (h h' : Heap) (d : Addr) (o' : Obj) (es' : Array DictEntry) (ep' : Nat) : Prop where
  same : Heap.SameBut d h h'
  ho : h'.get? d = some o'
  ex : o'.ExactDict
  hd : o'.data = .dict es' ep'
theorem set_core {v : Value} {Q : Unit → Shared → Prop} (D : DAt w s.heap d o es ep ns) (hu : A.units + 8 < cLine) (hk : NestedIs s.heap n u) (hdp : n.depth ≤ 8) (hz : es.size ≤ sizeLine)
    (h : ∀ h' o' ep', Put w s.heap h' d o' (putEs n ns w u v es) ep' → Q () { s with heap := h', toks := s.toks + n.draws }) : wpAny (model prog w) A (dictSet d u v) Q E s := by
  unfold dictSet
  try with_reducible refine wpAny_holding ?_
  refine wpAny_bind (pyHash_key n u A s _ hk (by omega) ?_)
  unfold dictSetHashed
  try with_reducible refine wpAny_holding ?_
  refine wpAny_bind (find_any (s := { s with toks := s.toks + n.draws }) hu D.ho D.hd D.en hk hdp ?_)
  cases e : ixK n ns with
  | none =>
    refine wpAny_bind (wpAny_rule (wpAny_updateDictKeys (hz := hz) (s := { s with toks := s.toks + n.draws }) D.ho D.hd (h _ _ (ep + 1) ⟨Heap.SameBut.update .., Heap.get?_update_self _ D.ho (Obj.isFreed_of_dict (Obj.data_mapDictKeys D.hd _)), D.ex.mapDictKeys _, ?_⟩)))
    rw [Obj.data_mapDictKeys D.hd _]
    unfold putEs
    rw [e]
  | some j =>
    refine wpAny_bind (wpAny_rule (wpAny_bind (wpAny_updateDict (s := { s with toks := s.toks + n.draws }) D.ho D.hd (wpAny_point (h _ _ ep ⟨Heap.SameBut.update .., Heap.get?_update_self _ D.ho (Obj.isFreed_of_dict (Obj.data_mapDict D.hd _)), D.ex.mapDict _, ?_⟩)))))
    rw [Obj.data_mapDict D.hd _]
    unfold putEs
    rw [e]
theorem v_set {v : Value} {Q : Unit → Shared → Prop} (D : DAt w s.heap d o es ep ns) (hu : A.units + 9 < cLine) (hk : NestedIs s.heap n u) (hdp : n.depth ≤ 8) (hz : es.size ≤ sizeLine)
    (h : ∀ h' o' ep', Put w s.heap h' d o' (putEs n ns w u v es) ep' → Q () { s with heap := h', toks := s.toks + n.draws }) : wpAny (model prog w) A (setItem (.ref d) u v) Q E s := by
  unfold setItem
  try with_reducible refine wpAny_holding ?_
  refine wpAny_bind (wpAny_sequenceKey D.ty (by decide) ?_)
  refine wpAny_bind (wpAny_callSpecial?_slot (name := Str.ofString "__setitem__") D.ty F.slot_dict_setitem
    (wpAny_call_entry F.slot_dict_setitem D.ty F.entry_dict_setitem ?_ (F.args_dict_setitem_3 _ _ _)))
  show wpAny _ _ (Builtin.Dict.notOrdered "__setitem__" ⟨[.ref d, u, v], []⟩ >>= _) _ _ s
  refine wpAny_bind (wpAny_notOrdered_dict D.ty ?_)
  show wpAny _ _ (dictSet d u v >>= _) _ _ s
  exact wpAny_bind (set_core D (by simpa only [Around.in1_units] using hu) hk hdp hz fun h' o' ep' p => wpAny_pure ⟨.none, rfl, wpAny_pure (h h' o' ep' p)⟩)
theorem v_setdefault {v : Value} {Q : Value → Shared → Prop} (D : DAt w s.heap d o es ep ns) (hu : A.units + 9 < cLine) (hk : NestedIs s.heap n u) (hdp : n.depth ≤ 8) (hz : es.size ≤ sizeLine)
    (h1 : ∀ x, valAtK n ns es = some x → Q x { s with toks := s.toks + n.draws }) (h2 : ixK n ns = none → ∀ h' o' ep', Put w s.heap h' d o' (putEs n ns w u v es) ep' → Q v { s with heap := h', toks := s.toks + n.draws }) :
    wpAny (model prog w) A (call (.builtin "dict.setdefault") [.ref d, u, v]) Q E s := by
  refine call_meetsIn F.slot_dict_setdefault D.ty F.entry_dict_setdefault (F.args_dict_setdefault_3 _ _ _) (S := fun A' R s' => A' = A ∧ s' = s ∧ (∀ x, valAtK n ns es = some x → R (.ok (.ret x)) { s with toks := s.toks + n.draws }) ∧
    (ixK n ns = none → ∀ h' o' ep', Put w s.heap h' d o' (putEs n ns w u v es) ep' → R (.ok (.ret v)) { s with heap := h', toks := s.toks + n.draws })) (.of_wp fun A' R s' hS => ?_) ⟨rfl, rfl, h1, h2⟩
  obtain ⟨rfl, rfl, q1, q2⟩ := hS
  unfold Builtin.«dict.setdefault»
  refine wpAny_bind ?_
  unfold Builtin.Dict.keyAndDefault
  refine wpAny_bind (wpAny_notOrdered_dict D.ty ?_)
  show wpAny _ _ (pure (d, u, some v)) _ _ s'
  refine wpAny_pure ?_
  show wpAny _ _ (if (d == sysModules) = true then _ else (dictSetDefault d u v >>= _)) _ _ s'
  rw [if_neg (by rw [D.sm]; exact Bool.false_ne_true)]
  refine wpAny_bind ?_
  unfold dictSetDefault
  try with_reducible refine wpAny_holding ?_
  have hu' : A'.in1.units + 8 < cLine := by simpa only [Around.in1_units] using hu
  refine wpAny_bind (pyHash_key n u _ s' _ hk (by omega) ?_)
  refine wpAny_bind (find_any (s := { s' with toks := s'.toks + n.draws }) hu' D.ho D.hd D.en hk hdp ?_)
  unfold valAtK at q1
  cases e : ixK n ns with
  | none =>
    refine wpAny_bind (wpAny_rule (wpAny_bind (wpAny_updateDictKeys (hz := hz) (s := { s' with toks := s'.toks + n.draws }) D.ho D.hd (wpAny_pure (wpAny_pure ⟨v, rfl, q2 e _ _ (ep + 1) ⟨Heap.SameBut.update .., Heap.get?_update_self _ D.ho (Obj.isFreed_of_dict (Obj.data_mapDictKeys D.hd _)), D.ex.mapDictKeys _, ?_⟩⟩)))))
    rw [Obj.data_mapDictKeys D.hd _]
    unfold putEs
    rw [e]
  | some j =>
    have hj : j < es.size := by
      rw [D.en.sz]
      unfold ixK at e
      rw [List.findIdx?_eq_some_iff_getElem] at e
      exact e.1
    rw [e] at q1
    refine wpAny_bind (wpAny_dictEntries (s := { s' with toks := s'.toks + n.draws }) D.ho D.hd ?_)
    rw [Array.getElem?_eq_getElem hj]
    refine wpAny_bind (wpAny_rule (wpAny_pure (wpAny_pure ⟨_, rfl, q1 _ ?_⟩)))
    rw [Option.bind_some, Array.getElem?_eq_getElem hj]
    rfl
end
end DL
/-! The data layer, part f: dicts as rules. -/
namespace DL
open PySem PySem.Spec PyProof.Rows L2

/-- a dict's keys and values, as data -/
def dictAt (M : Mem) : Dt → Option (List Dt × List Dt)
  | .dic ks vs => some (ks, vs)
  | .ref i => match M[i]? with
    | some (some (.dic ks vs)) => some (ks, vs)
    | _ => none
  | _ => none
def keyN (k : Dt) : Option NestedKey := (toKey k).bind fun n => if n.depth ≤ 8 then some n else none
def ixD' (ks : List Dt) (n : NestedKey) : Option Nat := (toKeys ks).bind (ixK n)
def findD (ks vs : List Dt) (n : NestedKey) : Option Dt := (ixD' ks n).bind fun i => vs[i]?
def putD (ks vs : List Dt) (n : NestedKey) (k v : Dt) : List Dt × List Dt := match ixD' ks n with
  | some j => (ks, vs.set j v)
  | none => (ks ++ [k], vs ++ [v])
theorem keyN_some {k : Dt} {n : NestedKey} (h : keyN k = some n) : toKey k = some n ∧ n.depth ≤ 8 := by
  unfold keyN at h
  cases e : toKey k with
  | none => rw [e] at h; cases h
  | some m =>
    rw [e, Option.bind_some] at h
    split at h
    · rename_i hd
      cases h
      exact ⟨rfl, hd⟩
    · cases h
theorem toKeys_cons {d : Dt} {ds : List Dt} {ks : List NestedKey} (h : toKeys (d :: ds) = some ks) : ∃ k r, toKey d = some k ∧ toKeys ds = some r ∧ ks = k :: r := by
  rw [toKeys] at h
  cases h1 : toKey d with
  | none => simp [h1] at h
  | some k =>
    cases h2 : toKeys ds with
    | none => simp [h1, h2] at h
    | some r =>
      simp only [h1, h2, Option.some.injEq] at h
      exact ⟨k, r, rfl, rfl, h.symm⟩
theorem toKeys_append : ∀ {as bs : List Dt} {ns ms : List NestedKey}, toKeys as = some ns → toKeys bs = some ms → toKeys (as ++ bs) = some (ns ++ ms)
  | [], _, _, _, h, q => by simp [toKeys] at h; subst h; exact q
  | a :: as, bs, ns, ms, h, q => by
    obtain ⟨k, r, h1, h2, rfl⟩ := toKeys_cons h
    rw [List.cons_append, toKeys, h1, toKeys_append h2 q]
    rfl
theorem toKeys_one {d : Dt} {n : NestedKey} (h : toKey d = some n) : toKeys [d] = some [n] := by rw [toKeys, h, toKeys]
section
variable {X : Cx} {pins : List (Addr × Obj)} {σ : L2.St} {s : Shared} {w : Ws}
mutual
theorem Dv.nested (I : Inv X pins σ w.H s) : ∀ (d : Dt) (v : V) (n : NestedKey) (u : Value), Dv X.K X.w w v d → toKey d = some n → RelV v u → NestedIs s.heap n u
  | .non, _, _, _, h, e, r => by cases h; simp [toKey] at e; subst e; cases r; exact .none
  | .bl b, _, _, _, h, e, r => by cases h; simp [toKey] at e; subst e; cases r; exact .bool rfl
  | .int i, _, _, _, h, e, r => by cases h; simp [toKey] at e; subst e; obtain ⟨t, rfl⟩ := r; exact .int _ _
  | .str x, _, _, _, h, e, r => by cases h; simp [toKey] at e; subst e; obtain ⟨t, rfl⟩ := r; exact .text _ _
  | .tup ds, _, n, _, h, e, r => by
    rw [toKey, Option.map_eq_some_iff] at e
    obtain ⟨ns, e, rfl⟩ := e
    cases h with
    | tup h1 h2 =>
      cases r
      obtain ⟨its, rv, ⟨o, ho, hc, k, hd⟩, _⟩ := I.tuple h1
      exact .tup ho hc hd (by simpa using Dvs.nested I ds _ ns its h2 e rv)
  | .lst _, _, _, _, _, e, _ => by simp [toKey] at e
  | .lsk _, _, _, _, _, e, _ => by simp [toKey] at e
  | .adr _, _, _, _, _, e, _ => by simp [toKey] at e
  | .ty _, _, _, _, _, e, _ => by simp [toKey] at e
  | .ref _, _, _, _, _, e, _ => by simp [toKey] at e
  | .dic _ _, _, _, _, _, e, _ => by simp [toKey] at e
  | .obj _ _ _, _, _, _, _, e, _ => by simp [toKey] at e
  | .sett _, _, _, _, _, e, _ => by simp [toKey] at e
theorem Dvs.nested (I : Inv X pins σ w.H s) : ∀ (ds : List Dt) (vs : List V) (ns : List NestedKey) (us : List Value), Dvs X.K X.w w vs ds → toKeys ds = some ns → Vals vs us → NestedAll s.heap ns us
  | [], _, _, _, h, e, r => by cases h; simp [toKeys] at e; subst e; cases r; exact .nil
  | d :: ds, _, ns, _, h, e, r => by
    obtain ⟨k, ks, e1, e2, rfl⟩ := toKeys_cons e
    cases h with
    | cons h1 h2 =>
      cases r with
      | cons r1 r2 => exact .cons (Dv.nested I d _ k _ h1 e1 r1) (Dvs.nested I ds _ ks _ h2 e2 r2)
end
theorem NestedAll.get {h : Heap} : ∀ {ns : List NestedKey} {us : List Value} {i : Nat} {u : Value}, NestedAll h ns us → us[i]? = some u → ∃ n, ns[i]? = some n ∧ NestedIs h n u
  | _, _, _, _, .nil, e => by simp at e
  | _, _, 0, _, .cons r _, e => by simp at e; subst e; exact ⟨_, rfl, r⟩
  | _, _, i + 1, _, .cons _ t, e => by
    obtain ⟨n, h1, h2⟩ := NestedAll.get (i := i) t (by simpa using e)
    exact ⟨n, by simpa using h1, h2⟩
/-- the dict's object, wherever it stands -/
structure DRep (X : Cx) (w : Ws) (a : Addr) (ks vs : List Dt) (o : Obj) (es : Array DictEntry) (ep : Nat) (kx vx : List V) : Prop where
  at' : w.H a = some (RawIs a o) ∨ X.K.lookup a = some o
  raw : RawD a o es ep kx vx
  key : KeysAre X.w ks es
  dk : Dvs X.K X.w w kx ks
  dv : Dvs X.K X.w w vx vs
theorem dict_rep {d : Dt} {v : V} {ks vs : List Dt} (ok : Ok X.K X.w w) (r : Dv X.K X.w w v d) (h : dictAt w.M d = some (ks, vs)) : ∃ a o es ep kx vx, v = .ref a ∧ DRep X w a ks vs o es ep kx vx := by
  cases r with
  | dic h1 n r k h2 h3 =>
    simp only [dictAt, Option.some.injEq, Prod.mk.injEq] at h
    obtain ⟨rfl, rfl⟩ := h
    exact ⟨_, _, _, _, _, _, rfl, .inl h1, r, k, h2, h3⟩
  | dicK h1 r k h2 h3 =>
    simp only [dictAt, Option.some.injEq, Prod.mk.injEq] at h
    obtain ⟨rfl, rfl⟩ := h
    exact ⟨_, _, _, _, _, _, rfl, .inr h1, r, k, h2, h3⟩
  | ref hr =>
    simp only [dictAt] at h
    split at h
    · rename_i ks' vs' hc
      simp only [Option.some.injEq, Prod.mk.injEq] at h
      obtain ⟨rfl, rfl⟩ := h
      obtain ⟨o, es, ep, kx, vx, h1, r, k, h2, h3⟩ := ok.cells _ _ _ hr hc
      exact ⟨_, _, _, _, _, _, rfl, .inl h1, r, k, h2, h3⟩
    · cases h
  | _ => simp [dictAt] at h
theorem DRep.dat {a : Addr} {ks vs : List Dt} {o : Obj} {es : Array DictEntry} {ep : Nat} {kx vx : List V} (D : DRep X w a ks vs o es ep kx vx) (I : Inv X pins σ w.H s) : ∃ ns, toKeys ks = some ns ∧ DAt X.w s.heap a o es ep ns := by
  obtain ⟨ns, h1, h2, h3, h4⟩ := D.key
  refine ⟨ns, h1, ?_, D.raw.ex, D.raw.dt, ⟨?_, fun i e he => ?_, h2, h3⟩, D.raw.sm⟩
  · rcases D.at' with h | h
    · exact (show ObjOk X.prog X.w w.H s.heap a (RawIs a o) from I.hok a _ h).1
    · exact I.kIn a o h
  · have := congrArg List.length h4
    simpa using this
  · have hn := Dvs.nested I ks kx ns _ D.dk h1 D.raw.ky
    have hl : es.toList[i]? = some e := by rw [Array.getElem?_toList]; exact he
    obtain ⟨n, k1, k2⟩ := NestedAll.get (i := i) (u := e.key) hn (by rw [List.getElem?_map, hl]; rfl)
    refine ⟨n, k1, k2, ?_⟩
    have q := congrArg (fun l => l[i]?) h4
    simp only [List.getElem?_map, hl, k1, Option.map_some, Option.some.injEq] at q
    exact q
/-- a value in the dict -/
theorem DRep.val {a : Addr} {ks vs : List Dt} {o : Obj} {es : Array DictEntry} {ep : Nat} {kx vx : List V} (D : DRep X w a ks vs o es ep kx vx) {ns : List NestedKey} (hns : toKeys ks = some ns) {n : NestedKey} :
    (∀ d, findD ks vs n = some d → ∃ u v, valAtK n ns es = some u ∧ RelV v u ∧ Dv X.K X.w w v d) ∧ (findD ks vs n = none → valAtK n ns es = none) := by
  have e : ixD' ks n = ixK n ns := by unfold ixD'; rw [hns]; rfl
  unfold findD valAtK
  rw [e]
  cases hi : ixK n ns with
  | none => exact ⟨fun d h => (by cases h), fun _ => rfl⟩
  | some i =>
    rw [Option.bind_some, Option.bind_some]
    have hv : ∀ d, vs[i]? = some d → ∃ u v, es[i]?.map (·.val) = some u ∧ RelV v u ∧ Dv X.K X.w w v d := fun d hd => by
      obtain ⟨v, h1, h2⟩ := D.dv.get hd
      obtain ⟨u, h3, h4⟩ := D.raw.vl.get h1
      rw [List.getElem?_map, Array.getElem?_toList] at h3
      exact ⟨u, v, h3, h4, h2⟩
    refine ⟨hv, fun h => ?_⟩
    have hl : vs.length = es.size := by rw [← D.dv.length, D.raw.vl.length]; simp
    have : es.size ≤ i := by rw [← hl]; exact List.getElem?_eq_none_iff.mp h
    rw [Array.getElem?_eq_none this]
    rfl
/-- another object at a tracked dict -/
theorem Inv.rawUpd {H : Hp} {a : Addr} {o o' : Obj} {h' : Heap} {t : Nat} (I : Inv X pins σ H s) (h : H a = some (RawIs a o)) (hs : Heap.SameBut a s.heap h') (ho : h'.get? a = some o') : Inv X pins σ (upd H a (RawIs a o')) { s with heap := h', toks := t } := by
  have mu : Mut (H a) := by rw [h]; exact True.intro
  have k : ∀ b u, b ≠ a → s.heap.get? b = some u → h'.get? b = some u := fun b u hb e => (hs.2 b hb).trans e
  refine I.un (Un.write mu (.inl rfl) k ⟨o', ho⟩) (I.hok.write mu (.inl rfl) k ⟨o', ho⟩ ?_)
  exact ⟨ho, ⟨o', ho⟩, fun h1 h2 p q => q _ p⟩
theorem raw_put {a : Addr} {ks vs : List Dt} {o o' : Obj} {es : Array DictEntry} {ep ep' : Nat} {kx vx : List V} (D : DRep X w a ks vs o es ep kx vx) {ns : List NestedKey} (hns : toKeys ks = some ns) {n : NestedKey} {k v : Dt} {x y : V} {u z : Value} (hk : keyN k = some n)
    (rx : RelV x u) (ry : RelV y z) (dx : Dv X.K X.w w x k) (dy : Dv X.K X.w w y v) (hz : es.size < sizeLine) (ex : o'.ExactDict) (hd : o'.data = .dict (putEs n ns X.w u z es) ep') :
    ∃ kx' vx', RawD a o' (putEs n ns X.w u z es) ep' kx' vx' ∧ KeysAre X.w (putD ks vs n k v).1 (putEs n ns X.w u z es) ∧ Dvs X.K X.w w kx' (putD ks vs n k v).1 ∧ Dvs X.K X.w w vx' (putD ks vs n k v).2 := by
  obtain ⟨hk1, hk2⟩ := keyN_some hk
  obtain ⟨ns', h1, h2, h3, h4⟩ := D.key
  rw [hns] at h1
  cases h1
  have e : ixD' ks n = ixK n ns := by unfold ixD'; rw [hns]; rfl
  unfold putD
  rw [e]
  unfold putEs at hd ⊢
  cases hi : ixK n ns with
  | some j =>
    rw [hi] at hd
    have em : ∀ {β : Type} (f : DictEntry → β), (∀ e : DictEntry, f { e with val := z } = f e) → (es.modify j fun e => { e with val := z }).toList.map f = es.toList.map f := fun f hf => by
      rw [Array.toList_modify]
      refine List.ext_getElem? fun i => ?_
      rw [List.getElem?_map, List.getElem?_map, List.getElem?_modify]
      cases hh : es.toList[i]? with
      | none => rfl
      | some e' => by_cases hij : j = i <;> simp [hij, hf]
    refine ⟨kx, vx.set j y, ⟨ex, hd, ?_, ?_, by simpa using D.raw.sz, D.raw.sm⟩, ⟨ns, hns, h2, h3, ?_⟩, D.dk, D.dv.set dy j⟩
    · rw [em (·.key) fun _ => rfl]
      exact D.raw.ky
    · have e2 : (es.modify j fun e => { e with val := z }).toList.map (·.val) = (es.toList.map (·.val)).set j z := by
        rw [Array.toList_modify]
        refine List.ext_getElem? fun i => ?_
        rw [List.getElem?_map, List.getElem?_modify, List.getElem?_set, List.getElem?_map]
        by_cases hij : j = i
        · subst hij
          cases hh : es.toList[j]? with
          | none =>
            have : ¬ j < es.toList.length := fun z => by rw [List.getElem?_eq_getElem z] at hh; cases hh
            simp at this
            simp [this]
          | some e' =>
            have : j < es.toList.length := (List.getElem?_eq_some_iff.mp hh).1
            simp at this
            simp [this]
        · simp [hij]
      rw [e2]
      exact Vals.set ry j D.raw.vl
    · rw [em (·.hash) fun _ => rfl]
      exact h4
  | none =>
    rw [hi] at hd
    have hnot : n ∉ ns := fun hm => by
      obtain ⟨i, hi2⟩ := List.mem_iff_getElem?.mp hm
      rw [ixK_some h2 hi2] at hi
      cases hi
    refine ⟨kx ++ [x], vx ++ [y], ⟨ex, hd, ?_, ?_, ?_, D.raw.sm⟩, ⟨ns ++ [n], toKeys_append hns (toKeys_one hk1), ?_, ?_, ?_⟩, D.dk.append (.one dx), D.dv.append (.one dy)⟩
    · rw [Array.toList_push, List.map_append]
      exact D.raw.ky.append (.cons rx .nil)
    · rw [Array.toList_push, List.map_append]
      exact D.raw.vl.append (.cons ry .nil)
    · rw [Array.size_push]
      omega
    · rw [List.nodup_append]
      refine ⟨h2, by simp, fun a ha b hb => ?_⟩
      have : b = n := by simpa using hb
      subst this
      exact fun e => hnot (e ▸ ha)
    · intro m hm
      rcases List.mem_append.mp hm with hm | hm
      · exact h3 m hm
      · have : m = n := by simpa using hm
        subst this
        exact hk2
    · rw [Array.toList_push, List.map_append, h4, List.map_append]
      rfl
end
end DL
/-! The data layer, part g: in, items, stores, dict displays and methods. -/
namespace DL
open PySem PySem.Spec PyProof.Rows L2

section
variable {X : Cx} {K : PySem.W.Frag} {W : World}
/-! ### x in y -/
def inO (M : Mem) (a b : Dt) : Option Bool := match b with
  | .str y => match a with
    | .str x => some (!(Builtin.Str.occurrences y x 0 y.length 1).isEmpty)
    | _ => none
  | b => match dictAt M b with
    | some (ks, _) => (keyN a).map fun n => (ixD' ks n).isSome
    | none => match seqAt M b with
      | some ds => match toPy (deref M a), toPys ds with
        | some p, some qs => if SeqAt.shaped p = true ∧ SeqAt.shaped (.tuple qs) = true then some (qs.any fun z => PyData.eqv z p) else none
        | _, _ => none
      | none => none
def rInA (K : PySem.W.Frag) (W : World) (neg : Bool) : R2 := fun x y H Q => ∃ w a b r, w.H = H ∧ Ok K W w ∧ Dv K W w x a ∧ Dv K W w y b ∧ inO w.M a b = some r ∧ Q (.bl (if neg then !r else r)) H
theorem shaped_canLay {qs : List PyData} (h : SeqAt.shaped (.tuple qs) = true) : PyData.canLayAll0 qs = true := SeqAt.canLay_of_shaped h
theorem Dvs.reads {w : Ws} {pins : List (Addr × Obj)} {σ : L2.St} {s : Shared} (I : Inv X pins σ w.H s) {b : Dt} {ds : List Dt} {qs : List PyData} {v : V} {u : Value} (ok : Ok X.K X.w w) (r : Dv X.K X.w w v b) (rv : RelV v u) (h : seqAt w.M b = some ds) (hq : toPys ds = some qs) :
    (∃ as, Reads s.heap u (.list qs) as) ∨ ∃ as, Reads s.heap u (.tuple qs) as := by
  obtain ⟨a, xs, rfl, q, rs⟩ := seqAt_ok ok r h
  have dp := Dvs.dp ds xs qs rs hq
  rcases q with q | q
  · exact .inl (Dp.reads I (.list qs) _ u (.lst q dp) rv)
  · exact .inr (Dp.reads I (.tuple qs) _ u (.tup q dp) rv)
theorem op_inA {k : Nat} (hr : Room k X.A) : OpR X (compareOp .In) (rInA X.K X.w false) := by
  intro pins s σ H x y v u Q I rx ry h
  obtain ⟨w, a, b, r, rfl, ok, da, db, hi, q⟩ := h
  have hu := hr.units
  unfold inO at hi
  split at hi
  · rename_i z
    cases db
    split at hi
    · rename_i x'
      cases da
      simp only [Option.some.injEq] at hi
      subst hi
      exact op_in_str pins s σ _ _ _ _ _ Q I rx ry ⟨_, _, rfl, rfl, q⟩
    · cases hi
  · split at hi
    · rename_i ks vs hd
      obtain ⟨n, hn, rfl⟩ := Option.map_eq_some_iff.mp hi
      obtain ⟨hn1, hn2⟩ := keyN_some hn
      obtain ⟨p, o, es, ep, kx, vx, rfl, D⟩ := dict_rep ok db hd
      obtain ⟨ns, hns, D'⟩ := D.dat I
      cases ry
      refine v_in D' (by omega) (Dv.nested I a x n v da hn1 rx) hn2 ⟨.bl _, w.H, I.tok _, rfl, ?_⟩
      have e : ixD' ks n = ixK n ns := by unfold ixD'; rw [hns]; rfl
      rw [e] at q
      exact q
    · split at hi
      · rename_i ds hs
        split at hi
        · rename_i p qs hp hq
          split at hi
          · rename_i hsh
            simp only [Option.some.injEq] at hi
            subst hi
            obtain ⟨as, r1⟩ := Dp.reads I p x v (deref_dp ok da hp) rx
            rcases Dvs.reads I ok db ry hs hq with ⟨bs, r2⟩ | ⟨bs, r2⟩
            · exact SeqAt.in_list_reads r2 r1 (shaped_canLay hsh.2) (SeqAt.canLay_of_shaped hsh.1) (room_in_shaped hsh.1 (by have := hr.un; omega)) ⟨.bl _, w.H, I, rfl, q⟩
            · exact SeqAt.in_tuple_reads r2 r1 (shaped_canLay hsh.2) (SeqAt.canLay_of_shaped hsh.1) (room_in_shaped hsh.1 (by have := hr.un; omega)) ⟨.bl _, w.H, I, rfl, q⟩
          · cases hi
        · cases hi
      · cases hi
theorem op_notInA {k : Nat} (hr : Room k X.A) : OpR X (compareOp .NotIn) (rInA X.K X.w true) := by
  intro pins s σ H x y v u Q I rx ry h
  obtain ⟨w, a, b, r, rfl, ok, da, db, hi, q⟩ := h
  have hu := hr.units
  unfold inO at hi
  split at hi
  · rename_i z
    cases db
    split at hi
    · rename_i x'
      cases da
      simp only [Option.some.injEq] at hi
      subst hi
      exact op_notin_str pins s σ _ _ _ _ _ Q I rx ry ⟨_, _, rfl, rfl, q⟩
    · cases hi
  · split at hi
    · rename_i ks vs hd
      obtain ⟨n, hn, rfl⟩ := Option.map_eq_some_iff.mp hi
      obtain ⟨hn1, hn2⟩ := keyN_some hn
      obtain ⟨p, o, es, ep, kx, vx, rfl, D⟩ := dict_rep ok db hd
      obtain ⟨ns, hns, D'⟩ := D.dat I
      cases ry
      refine v_notIn D' (by omega) (Dv.nested I a x n v da hn1 rx) hn2 ⟨.bl _, w.H, I.tok _, rfl, ?_⟩
      have e : ixD' ks n = ixK n ns := by unfold ixD'; rw [hns]; rfl
      rw [e] at q
      exact q
    · split at hi
      · rename_i ds hs
        split at hi
        · rename_i p qs hp hq
          split at hi
          · rename_i hsh
            simp only [Option.some.injEq] at hi
            subst hi
            obtain ⟨as, r1⟩ := Dp.reads I p x v (deref_dp ok da hp) rx
            rcases Dvs.reads I ok db ry hs hq with ⟨bs, r2⟩ | ⟨bs, r2⟩
            · exact SeqAt.notIn_list_reads r2 r1 (shaped_canLay hsh.2) (SeqAt.canLay_of_shaped hsh.1) (room_in_shaped hsh.1 (by have := hr.un; omega)) ⟨.bl _, w.H, I, rfl, q⟩
            · exact SeqAt.notIn_tuple_reads r2 r1 (shaped_canLay hsh.2) (SeqAt.canLay_of_shaped hsh.1) (room_in_shaped hsh.1 (by have := hr.un; omega)) ⟨.bl _, w.H, I, rfl, q⟩
          · cases hi
        · cases hi
      · cases hi
def inD : Dt → Dt → Mem → Option (Dt × Mem) := fun a b M => pur ((inO M a b).map .bl) M
def notInD : Dt → Dt → Mem → Option (Dt × Mem) := fun a b M => pur ((inO M a b).map fun c => .bl (!c)) M
theorem in_ok : R2Ok K W (rInA K W false) inD := by
  intro w x y a b d M' Q ok rx ry h f
  replace h := pur_eq h
  obtain ⟨rfl, h⟩ := h
  obtain ⟨r, hr, rfl⟩ := Option.map_eq_some_iff.mp h
  exact ⟨w, a, b, r, rfl, ok, rx, ry, hr, fin_here f ok (.bl _)⟩
theorem notIn_ok : R2Ok K W (rInA K W true) notInD := by
  intro w x y a b d M' Q ok rx ry h f
  replace h := pur_eq h
  obtain ⟨rfl, h⟩ := h
  obtain ⟨r, hr, rfl⟩ := Option.map_eq_some_iff.mp h
  exact ⟨w, a, b, r, rfl, ok, rx, ry, hr, fin_here f ok (.bl _)⟩
theorem re_in {a b : Expr} {pos : Pos} {k : Nat} {ma mb : EM} (hr : Room k X.A) (ha : RE X a ma) (hb : RE X b mb) (hm : behindInMarks .In b = false := by rfl) : RE X (.Compare a [.In] [b] pos) (opE inD ma mb) := re_cmp (op_inA hr) in_ok hm ha hb
theorem re_notIn {a b : Expr} {pos : Pos} {k : Nat} {ma mb : EM} (hr : Room k X.A) (ha : RE X a ma) (hb : RE X b mb) (hm : behindInMarks .NotIn b = false := by rfl) : RE X (.Compare a [.NotIn] [b] pos) (opE notInD ma mb) := re_cmp (op_notInA hr) notIn_ok hm ha hb
theorem rt_in {a b : Expr} {pos : Pos} {k : Nat} {ma mb : EM} (hr : Room k X.A) (ha : RE X a ma) (hb : RE X b mb) (hm : behindInMarks .In b = false := by rfl) : RT X (.Compare a [.In] [b] pos) (blT (opE inD ma mb)) := rt_cmp (op_inA hr) in_ok hm ha hb
theorem rt_notIn {a b : Expr} {pos : Pos} {k : Nat} {ma mb : EM} (hr : Room k X.A) (ha : RE X a ma) (hb : RE X b mb) (hm : behindInMarks .NotIn b = false := by rfl) : RT X (.Compare a [.NotIn] [b] pos) (blT (opE notInD ma mb)) := rt_cmp (op_notInA hr) notIn_ok hm ha hb

/-! ### x[i] of anything -/
def rIxK (K : PySem.W.Frag) (W : World) : R2 := fun x y H Q => ∃ w a b ks vs n d, w.H = H ∧ Ok K W w ∧ Dv K W w x a ∧ Dv K W w y b ∧ dictAt w.M a = some (ks, vs) ∧ keyN b = some n ∧ findD ks vs n = some d ∧ ∀ v, Dv K W w v d → Q v H
theorem ix_dict {k : Nat} (hr : Room k X.A) : IxR X (rIxK X.K X.w) := by
  intro value slice pins s σ H x y v u Q I rx ry h hs
  obtain ⟨w, a, b, ks, vs, n, d, rfl, ok, da, db, hd, hn, hf, q⟩ := h
  obtain ⟨hn1, hn2⟩ := keyN_some hn
  obtain ⟨p, o, es, ep, kx, vx, rfl, D⟩ := dict_rep ok da hd
  obtain ⟨ns, hns, D'⟩ := D.dat I
  obtain ⟨z, vz, hz, rz, dz⟩ := (D.val hns).1 d hf
  cases rx
  have hu := hr.units
  exact tail_any D'.ty F.slot_dict_getitem.lookup (v_item D' (by omega) (Dv.nested I b y n u db hn1 ry) hn2 hz ⟨vz, w.H, I.tok _, rz, q vz dz⟩) hs
def ixA : Dt → Dt → Mem → Option (Dt × Mem) := fun a b M => match dictAt M a with
  | some (ks, vs) => pur ((keyN b).bind fun n => findD ks vs n) M
  | none => ixD a b M
theorem ixA_ok : R2Ok K W (fun x y H Q => rIx K x y H Q ∨ rIxK K W x y H Q) ixA := by
  intro w x y a b d M' Q ok rx ry h f
  unfold ixA at h
  split at h
  · rename_i ks vs hd
    replace h := pur_eq h
    obtain ⟨rfl, h⟩ := h
    cases hn : keyN b with
    | none => rw [hn] at h; cases h
    | some n =>
      rw [hn] at h
      exact .inr ⟨w, a, b, ks, vs, n, d, rfl, ok, rx, ry, hd, hn, h, fun v r => fin_here f ok r⟩
  · exact .inl (ix_ok w x y a b d M' Q ok rx ry h f)
theorem re_ixA {a b : Expr} {pos : Pos} {k : Nat} {ma mb : EM} (hr : Room k X.A) (ha : RE X a ma) (hb : RE X b mb) (hs : PlainIx b := by exact fun _ _ => rfl) : RE X (.Subscript a b pos) (opE ixA ma mb) :=
  pe_weak (pe_ix (ix_seq.or (ix_dict hr)) ha hb hs) (opE_ok ixA_ok)

/-! ### x[i] = v -/
def storeD (M : Mem) (o i v : Dt) : Option Mem := match o with
  | .ref c => match M[c]? with
    | some (some (.lst ds)) => match i with
      | .int k => (ixN ds.length k).map fun j => M.set c (some (.lst (ds.set j v)))
      | _ => none
    | some (some (.dic ks vs)) => if ks.length < sizeLine then (keyN i).map fun n => M.set c (some (.dic (putD ks vs n i v).1 (putD ks vs n i v).2)) else none
    | _ => none
  | _ => none
def sSetA (K : PySem.W.Frag) (W : World) : TSet := fun x y z H Q => ∃ w o i v M', w.H = H ∧ Ok K W w ∧ Dv K W w x o ∧ Dv K W w y i ∧ Dv K W w z v ∧ storeD w.M o i v = some M' ∧ ∀ w', w'.M = M' → Ok K W w' → Ext w w' → Q w'.H
theorem DRep.len {w : Ws} {a : Addr} {ks vs : List Dt} {o : Obj} {es : Array DictEntry} {ep : Nat} {kx vx : List V} (D : DRep X w a ks vs o es ep kx vx) : es.size = ks.length := by
  rw [← D.dk.length, D.raw.ky.length]
  simp
theorem set_any {k : Nat} (hr : Room k X.A) : PSet X (sSetA X.K X.w) := by
  intro pins s σ H x y z ov iv u Q I rx ry rz h
  obtain ⟨w, o, i, v, M', rfl, ok, dx, dy, dz, hs, q⟩ := h
  have hu := hr.units
  unfold storeD at hs
  split at hs
  · rename_i c
    cases dx with
    | @ref _ a hc =>
      split at hs
      · rename_i ds hm
        split at hs
        · rename_i k
          obtain ⟨j, hj, rfl⟩ := Option.map_eq_some_iff.mp hs
          obtain ⟨xs, hx, r⟩ := ok.cells _ _ _ hc hm
          cases dy
          refine set_list pins s σ w.H _ _ _ _ _ _ _ I rx ry rz ⟨a, xs, k, j, rfl, rfl, hx, by rw [r.length]; exact hj, ?_⟩
          exact q (w.chg c a (.lst (xs.set j z)) (.lst (ds.set j v))) rfl (ok.chg hc hm ⟨_, upd_same, (r.set dz j).mono (Ext.chg ok hc hm)⟩) (Ext.chg ok hc hm)
        · cases hs
      · rename_i ks vs hm
        split at hs
        · rename_i hz
          obtain ⟨n, hn, rfl⟩ := Option.map_eq_some_iff.mp hs
          obtain ⟨hn1, hn2⟩ := keyN_some hn
          obtain ⟨ob, es, ep, kx, vx, h1, r, kk, h2, h3⟩ := ok.cells _ _ _ hc hm
          have D : DRep X w a ks vs ob es ep kx vx := ⟨.inl h1, r, kk, h2, h3⟩
          obtain ⟨ns, hns, D'⟩ := D.dat I
          have hsz : es.size < sizeLine := by rw [D.len]; exact hz
          cases rx
          refine v_set D' (by omega) (Dv.nested I i y n iv dy hn1 ry) hn2 (Nat.le_of_lt hsz) fun h' o' ep' p => ?_
          obtain ⟨kx', vx', r', kk', d1, d2⟩ := raw_put D hns hn ry rz dy dz hsz p.ex p.hd
          refine ⟨_, Inv.rawUpd I h1 p.same p.ho, ?_⟩
          refine q (w.chg c a (RawIs a o') (.dic (putD ks vs n i v).1 (putD ks vs n i v).2)) rfl (ok.chg hc hm ?_) (Ext.chg ok hc hm)
          exact ⟨o', _, ep', kx', vx', upd_same, r', kk', d1.mono (Ext.chg ok hc hm), d2.mono (Ext.chg ok hc hm)⟩
        · cases hs
      · cases hs
  · cases hs
def subG (mo mi : EM) : GM := fun d e M => thn1 (mo e M) fun o M1 => thn1 (mi e M1) fun i M2 => (storeD M2 o i d).map fun M3 => (e, M3)
theorem rg_sub {o i : Expr} {pos : Pos} {k : Nat} {mo mi : EM} (hr : Room k X.A) (ho : RE X o mo) (hi : RE X i mi) (ha : ∀ v, assign (.Subscript o i pos) X.env v = (do
      let ov ← holding [v] (eval o X.env)
      let iv ← holding [v, ov] (eval i X.env)
      standAt pos
      holding [v, ov, iv] (setItem ov iv v)
      release [v, ov, iv] []) := by intro _; rfl) : RG X (.Subscript o i pos) (subG mo mi) := by
  refine pg_weak (pg_sub ho hi (set_any hr) ha) fun v σ H Q q => ?_
  obtain ⟨w, d, e, e', M', rfl, ok, r, er, hm, f⟩ := q
  obtain ⟨od, M1, h1, hm⟩ := thn1_eq hm
  obtain ⟨id, M2, h2, hm⟩ := thn1_eq hm
  obtain ⟨M3, h3, hm⟩ := Option.map_eq_some_iff.mp hm
  cases hm
  refine ⟨w, e, od, M1, rfl, ok, er, h1, fun w1 x hM1 ok1 x1 rx => ?_⟩
  refine ⟨w1, e, id, M2, rfl, ok1, er.mono x1, by rw [hM1]; exact h2, fun w2 y hM2 ok2 x2 ry => ?_⟩
  refine ⟨w2, od, id, d, M', rfl, ok2, rx.mono x2, ry, (r.mono x1).mono x2, by rw [hM2]; exact h3, fun w3 hM3 ok3 x3 => ?_⟩
  exact f w3 hM3 ok3 ((x1.trans x2).trans x3) σ (((er.mono x1).mono x2).mono x3)

/-! ### dict displays -/
theorem cell_dic {w : Ws} {p : Addr} {o : Obj} {es : Array DictEntry} {ep : Nat} {kx vx : List V} {ks vs : List Dt} (ok : Ok K W w) (hp : w.H p = none) (r : RawD p o es ep kx vx) (k : KeysAre W ks es) (d1 : Dvs K W w kx ks) (d2 : Dvs K W w vx vs) :
    Ok K W (w.cell p (RawIs p o) (.dic ks vs)) := ok.cell hp ⟨o, es, ep, kx, vx, upd_same, r, k, d1.mono (Ext.cell ok hp), d2.mono (Ext.cell ok hp)⟩
def newDict : EM := fun _ M => some (.ref M.length, M ++ [some (.dic [] [])])
theorem re_newDict {pos : Pos} : RE X (.Dict [] [] pos) newDict := by
  refine ⟨fun pins s σ H Q I h => ?_⟩
  obtain ⟨w, sl, d, M', rfl, ok, er, hm, f⟩ := h
  cases hm
  have hp : w.H s.heap.objs.size = none := I.hok.fresh (Nat.le_refl _)
  refine wpAny_Dict_empty ⟨.ref s.heap.objs.size, upd w.H s.heap.objs.size (RawIs s.heap.objs.size { cls := .type "dict", data := .dict #[] }), I.laid (t' := s.toks) (fun _ _ q => Heap.get?_push_of_some _ q) (Nat.le_refl _) ?_, rfl, ?_⟩
  · exact ⟨Heap.get?_push_size _ rfl, ⟨_, Heap.get?_push_size _ rfl⟩, fun h1 h2 p q => q _ p⟩
  · refine f (w.cell s.heap.objs.size (RawIs s.heap.objs.size { cls := .type "dict", data := .dict #[] }) (.dic [] [])) _ rfl (cell_dic ok hp ⟨⟨rfl, rfl, rfl⟩, rfl, .nil, .nil, Nat.zero_le _, ?_⟩ ⟨[], rfl, List.nodup_nil, (fun _ h => nomatch h), rfl⟩ .nil .nil) (Ext.cell ok hp) (cell_ref ok)
    have := I.big
    exact beq_eq_false_iff_ne.mpr (Nat.ne_of_gt this)

/-- a hidden object becomes a cell -/
def Ws.bare (w : Ws) (p : Addr) (o : HO) (c : Dt) (ex : List Addr) : Ws := { ρ := w.ρ ++ [p], M := w.M ++ [some c], H := L2.upd w.H p o, ex := ex }
theorem live_bare {w : Ws} {p : Addr} {o : HO} {c : Dt} {ex : List Addr} {a : Addr} (ok : Ok K W w) (h : Live (w.bare p o c ex) a) : Live w a ∨ a = p := by
  obtain ⟨i, c', h1, h2⟩ := h
  have h1 : (w.ρ ++ [p])[i]? = some a := h1
  have h2 : (w.M ++ [some c])[i]? = some (some c') := h2
  by_cases hi : i < w.ρ.length
  · rw [List.getElem?_append_left hi] at h1
    rw [List.getElem?_append_left (by rw [← ok.len]; exact hi)] at h2
    exact .inl ⟨i, c', h1, h2⟩
  · rw [List.getElem?_append_right (by omega)] at h1
    have := List.mem_of_getElem? h1
    exact .inr (by simpa using this)
theorem Ext0.bare {w : Ws} (ok : Ok K W w) {p : Addr} {o o0 : HO} {c : Dt} {ex : List Addr} (hp : p ∈ w.ex) (h0 : w.H p = some o0) (hm : Mut (some o0)) (hx : ∀ a ∈ ex, a ∈ w.ex) : Ext0 w (w.bare p o c ex) := by
  refine ⟨⟨[p], rfl⟩, fun a u e n => ?_, fun a u e n => ⟨?_, fun z => ?_, fun z => n.nx (hx a z)⟩⟩
  · have : a ≠ p := by
      rintro rfl
      rw [h0] at e; cases e
      exact n hm
    show L2.upd w.H p o a = some u
    rw [upd_ne this]; exact e
  · have : a ≠ p := by
      rintro rfl
      exact n.nx hp
    show L2.upd w.H p o a = some u
    rw [upd_ne this]; exact e
  · rcases live_bare ok z with z | rfl
    · exact n.nl z
    · exact n.nx hp
theorem Ok.bare {w : Ws} (ok : Ok K W w) {p : Addr} {o o0 : HO} {c : Dt} {ex : List Addr} (hp : p ∈ w.ex) (h0 : w.H p = some o0) (hm : Mut (some o0)) (hx : ∀ a ∈ ex, a ∈ w.ex) (hpx : p ∉ ex) (hc : CellAt K W (w.bare p o c ex) p c) : Ok K W (w.bare p o c ex) := by
  have hpr : p ∉ w.ρ := (ok.exl p hp).1
  have all : ∀ b, (∃ u, w.H b = some u) → ∃ u, L2.upd w.H p o b = some u := fun b hb => by
    by_cases e : b = p
    · subst e; exact ⟨o, upd_same⟩
    · rw [upd_ne e]; exact hb
  refine ⟨?_, ?_, fun a h => ?_, fun a h => ⟨?_, all a (ok.exl a (hx a h)).2⟩, fun i a c' h1 h2 => ?_⟩
  · show (w.ρ ++ [p]).length = (w.M ++ [some c]).length
    rw [List.length_append, List.length_append, ok.len]; rfl
  · show (w.ρ ++ [p]).Nodup
    rw [List.nodup_append]
    refine ⟨ok.nd, by simp, ?_⟩
    intro x hx' y hy
    have : y = p := by simpa using hy
    subst this
    exact fun e => hpr (e ▸ hx')
  · rcases List.mem_append.mp h with h | h
    · exact all a (ok.has a h)
    · have : a = p := by simpa using h
      subst this
      exact ⟨o, upd_same⟩
  · show a ∉ w.ρ ++ [p]
    rw [List.mem_append, not_or]
    refine ⟨(ok.exl a (hx a h)).1, ?_⟩
    simp only [List.mem_singleton]
    rintro rfl
    exact hpx h
  · have h1 : (w.ρ ++ [p])[i]? = some a := h1
    have h2 : (w.M ++ [some c])[i]? = some (some c') := h2
    by_cases hi : i < w.ρ.length
    · rw [List.getElem?_append_left hi] at h1
      rw [List.getElem?_append_left (by rw [← ok.len]; exact hi)] at h2
      have hmem : a ∈ w.ρ := List.mem_of_getElem? h1
      refine CellAt.mono0 (Ext0.bare ok hp h0 hm hx) ?_ (ok.cells i a c' h1 h2)
      show L2.upd w.H p o a = w.H a
      exact upd_ne fun e => hpr (e ▸ hmem)
  
    · rw [List.getElem?_append_right (by omega)] at h1
      rw [List.getElem?_append_right (by rw [← ok.len]; omega)] at h2
      have e1 : a = p := by
        have := List.mem_of_getElem? h1
        simpa using this
      have e2 : some c' = some c := by
        have := List.mem_of_getElem? h2
        simpa using this
      cases e2
      subst e1
      exact hc
theorem Ext.bare {w1 w2 : Ws} (ok1 : Ok K W w1) (ok2 : Ok K W w2) (x : Ext w1 w2) {p : Addr} {o : HO} {c : Dt} (hp : w1.H p = none) : Ext w1 (w2.bare p o c w1.ex) := by
  refine ⟨⟨?_, fun a u e n => ?_, fun a u e n => ?_⟩, fun a h => ?_, fun a h => h⟩
  · obtain ⟨t, q⟩ := x.pre
    exact ⟨t ++ [p], by show w2.ρ ++ [p] = _; rw [q, List.append_assoc]⟩
  · show L2.upd w2.H p o a = some u
    rw [upd_ne (ne_of_none e hp)]
    exact x.imm a u e n
  · obtain ⟨h1, n1⟩ := x.frz a u e n
    refine ⟨?_, fun z => ?_, n.nx⟩
    · show L2.upd w2.H p o a = some u
      rw [upd_ne (ne_of_none e hp)]
      exact h1
    · rcases live_bare ok2 z with z | rfl
      · exact n1.nl z
      · rw [hp] at e; cases e
  · show L2.upd w2.H p o a = w1.H a
    rw [upd_ne (ok1.exn hp h)]
    exact x.hid a h
theorem bare_ref {w : Ws} {p : Addr} {o : HO} {c : Dt} {ex : List Addr} (ok : Ok K W w) : Dv K W (w.bare p o c ex) (.ref p) (.ref w.M.length) := by
  refine .ref ?_
  show (w.ρ ++ [p])[w.M.length]? = some p
  rw [← ok.len]
  simp

abbrev PM := List (EM × EM)
def evalP : PM → Sl → Mem → Option (List (Dt × Dt) × Mem)
  | [], _, M => some ([], M)
  | (mk, mv) :: r, e, M => thn1 (mk e M) fun k M1 => thn1 (mv e M1) fun v M2 => thn1 (evalP r e M2) fun ps M3 => some ((k, v) :: ps, M3)
def strKeys : List Dt → Option (List Str)
  | [] => some []
  | .str x :: r => (strKeys r).map fun xs => x :: xs
  | _ :: _ => none
def dispE (pm : PM) : EM := fun e M => thn1 (evalP pm e M) fun ps M1 => match strKeys (ps.map (·.1)) with
  | some xs => if xs.Nodup ∧ xs.length ≤ 15 then some (.ref M1.length, M1 ++ [some (.dic (ps.map (·.1)) (ps.map (·.2)))]) else none
  | none => none
theorem pairs_read {σ : L2.St} : ∀ {pm : PM} {w : Ws} {e : Sl} {ps : List (Dt × Dt)} {M' : Mem} {Q : List (V × V) → Hp → Prop}, Ok K W w → EnvR K W w σ e → evalP pm e w.M = some (ps, M') →
    (∀ w' (xs : List (V × V)), w'.M = M' → Ok K W w' → Ext w w' → Dvs K W w' (xs.map (·.1)) (ps.map (·.1)) → Dvs K W w' (xs.map (·.2)) (ps.map (·.2)) → Q xs w'.H) → tPairs (pm.map fun p => (tE K W p.1, tE K W p.2)) σ w.H Q
  | [], w, e, ps, M', Q, ok, er, hm, k => by
    cases hm
    exact k w [] rfl ok (Ext.refl w) .nil .nil
  | (mk, mv) :: r, w, e, ps, M', Q, ok, er, hm, k => by
    obtain ⟨a, M1, h1, hm⟩ := thn1_eq hm
    obtain ⟨b, M2, h2, hm⟩ := thn1_eq hm
    obtain ⟨qs, M3, h3, hm⟩ := thn1_eq hm
    cases hm
    refine ⟨w, e, a, M1, rfl, ok, er, h1, fun w1 x hM1 ok1 x1 rx => ?_⟩
    refine ⟨w1, e, b, M2, rfl, ok1, er.mono x1, by rw [hM1]; exact h2, fun w2 y hM2 ok2 x2 ry => ?_⟩
    refine pairs_read ok2 ((er.mono x1).mono x2) (by rw [hM2]; exact h3) fun w3 xs hM3 ok3 x3 r1 r2 => ?_
    exact k w3 ((x, y) :: xs) hM3 ok3 ((x1.trans x2).trans x3) (.cons ((rx.mono x2).mono x3) r1) (.cons (ry.mono x3) r2)
theorem strKeys_ok {w : Ws} : ∀ {ds : List Dt} {xs : List Str} {vs : List V}, strKeys ds = some xs → Dvs K W w vs ds → vs = xs.map V.str ∧ ds = xs.map Dt.str
  | [], xs, vs, h, r => by simp [strKeys] at h; subst h; cases r; exact ⟨rfl, rfl⟩
  | d :: ds, xs, vs, h, r => by
    cases d with
    | str x =>
      simp only [strKeys, Option.map_eq_some_iff] at h
      obtain ⟨ys, h, rfl⟩ := h
      cases r with
      | cons r1 r2 =>
        cases r1
        obtain ⟨e1, e2⟩ := strKeys_ok h r2
        exact ⟨by rw [List.map_cons, e1], by rw [List.map_cons, e2]⟩
    | _ => simp [strKeys] at h
theorem toKeys_strs : ∀ xs : List Str, toKeys (xs.map Dt.str) = some (xs.map NestedKey.text)
  | [] => rfl
  | x :: xs => by rw [List.map_cons, toKeys, toKeys_strs xs]; rfl
theorem stored_new {κ β : Type} [DecidableEq κ] {acc : List (κ × Value)} {k : κ} {v : Value} (h : k ∉ acc.map (·.1)) : stored acc k v = acc ++ [(k, v)] := by
  unfold stored
  rw [if_neg]
  intro z
  rw [List.any_eq_true] at z
  obtain ⟨x, hx, e⟩ := z
  exact h (List.mem_map.mpr ⟨x, hx, by simpa using e⟩)
theorem merged_new {κ : Type} [DecidableEq κ] : ∀ {rs acc : List (κ × Value)}, ((acc ++ rs).map (·.1)).Nodup → merged acc rs = acc ++ rs
  | [], acc, _ => by simp [merged]
  | (k, v) :: rs, acc, h => by
    have h2 : k ∉ acc.map (·.1) := by
      rw [List.map_append, List.nodup_append] at h
      exact fun z => h.2.2 k z k (by simp) rfl
    show merged (stored acc k v) rs = _
    rw [stored_new (β := Value) h2, merged_new (by simpa using h)]
    simp
/-- a dict of the library with text keys, as its raw object -/
theorem raw_of {P : Program} {h : Heap} {p : Addr} {rs : List (Key × Value)} {xs : List Str} {ys : List V} (d : h.DictOf (mixKind P W) p rs) (hk : rs.map (·.1) = xs.map Sum.inr) (hv : Vals ys (rs.map (·.2))) (nd : xs.Nodup) (hz : xs.length ≤ sizeLine) (sm : (p == sysModules) = false) :
    ∃ o es ep, h.get? p = some o ∧ RawD p o es ep (xs.map V.str) ys ∧ KeysAre W (xs.map Dt.str) es := by
  obtain ⟨o, es, ep, ho, ex, hd, ko, pr, _⟩ := d
  have hkeys : ∀ e ∈ es.toList, ∃ k, keyIs k e.key = true ∧ e.hash = keyH W k := fun e he => ko e (Array.mem_toList_iff.mp he)
  clear ko
  have hsz : es.size = rs.length := by
    have : ∀ {l : List DictEntry} {r : List (Key × Value)}, Pairs (mixKind P W) l r → l.length = r.length := fun q => by
      induction q with
      | nil => rfl
      | cons _ _ _ ih => simp [ih]
    rw [← Array.length_toList]
    exact this pr
  have hl : rs.length = xs.length := by
    have := congrArg List.length hk
    simpa using this
  have main : ∀ {l : List DictEntry} {r : List (Key × Value)} {xs : List Str} {ys : List V}, (∀ e ∈ l, ∃ k, keyIs k e.key = true ∧ e.hash = keyH W k) → Pairs (mixKind P W) l r → r.map (·.1) = xs.map Sum.inr → Vals ys (r.map (·.2)) →
      Vals (xs.map V.str) (l.map (·.key)) ∧ Vals ys (l.map (·.val)) ∧ l.map (·.hash) = (xs.map NestedKey.text).map (·.hash W) := by
    intro l r xs ys hko q
    induction q generalizing xs ys with
    | nil =>
      intro h1 h2
      cases xs with
      | nil => exact ⟨.nil, h2, rfl⟩
      | cons _ _ => cases h1
    | @cons e kv l r hk he hp ih =>
      intro h1 h2
      cases xs with
      | nil => cases h1
      | cons x xs =>
        simp only [List.map_cons, List.cons.injEq] at h1
        cases h2 with
        | cons r1 r2 =>
          obtain ⟨i1, i2, i3⟩ := ih (fun e' he' => hko e' (List.mem_cons_of_mem _ he')) h1.2 r2
          have hk' : keyIs (Sum.inr x) e.key = true := by
            have : keyIs kv.1 e.key = true := hk
            rw [h1.1] at this
            exact this
          obtain ⟨t, ht⟩ := Value.isStrOf_shape (x := x) (v := e.key) hk'
          refine ⟨.cons ⟨t, ht⟩ i1, .cons (by show RelV _ e.val; rw [he]; exact r1) i2, ?_⟩
          rw [List.map_cons, List.map_cons, List.map_cons, i3]
          obtain ⟨k, k1, k2⟩ := hko e List.mem_cons_self
          have : k = Sum.inr x := (mixKind P W).inj _ _ _ k1 hk'
          subst this
          rw [k2]
          rfl
  obtain ⟨m1, m2, m3⟩ := main hkeys pr hk hv
  refine ⟨o, es, ep, ho, ⟨ex, hd, m1, m2, by omega, sm⟩, xs.map NestedKey.text, toKeys_strs xs, ?_, fun n hn => ?_, m3⟩
  · rw [List.nodup_iff_pairwise_ne] at nd ⊢
    rw [List.pairwise_map]
    exact nd.imp fun h e => h (NestedKey.text.inj e)
  · obtain ⟨x, _, rfl⟩ := List.mem_map.mp hn
    exact Nat.zero_le _
theorem carries_strs {P : Program} : ∀ {ps : List (V × V)} {ws : List (Value × Value)} {xs : List Str}, VV ps ws → ps.map (·.1) = xs.map V.str → ∃ rs, Carries (mixKind P W) ws rs ∧ rs.map (·.1) = xs.map Sum.inr ∧ Vals (ps.map (·.2)) (rs.map (·.2))
  | [], _, xs, r, e => by
    cases r
    cases xs with
    | nil => exact ⟨[], True.intro, rfl, .nil⟩
    | cons _ _ => cases e
  | p :: ps, _, xs, r, e => by
    cases xs with
    | nil => cases e
    | cons x xs =>
      simp only [List.map_cons, List.cons.injEq] at e
      cases r with
      | @cons _ q _ ws h t =>
        obtain ⟨rs, c, e2, v2⟩ := carries_strs (P := P) t e.2
        obtain ⟨q1, q2⟩ := q
        have hq : RelV (.str x) q1 := by rw [← e.1]; exact h.1
        obtain ⟨tk, rfl⟩ := hq
        exact ⟨(Sum.inr x, q2) :: rs, ⟨keyIs_str x tk, rfl, c⟩, by rw [List.map_cons, e2]; rfl, .cons h.2 v2⟩
theorem re_disp {pos : Pos} {keys : List (Option Expr)} {values : List Expr} {pm : PM} (h : PPs X pos keys values (pm.map fun p => (tE X.K X.w p.1, tE X.K X.w p.2))) (hall : keys.all (·.isSome) = true) (hl : keys.length = values.length) (h0 : keys ≠ [])
    (h15 : keys.length ≤ 15) : RE X (.Dict keys values pos) (dispE pm) := by
  refine ⟨fun pins s σ H Q I q => ?_⟩
  obtain ⟨w, sl, d, M', rfl, ok, er, hm, f⟩ := q
  obtain ⟨ps, M1, h1, hm⟩ := thn1_eq hm
  split at hm
  · rename_i xs hxs
    split at hm
    · rename_i hnd
      simp only [Option.some.injEq, Prod.mk.injEq] at hm
      obtain ⟨rfl, rfl⟩ := hm
      have hp : w.H s.heap.objs.size = none := I.hok.fresh (Nat.le_refl s.heap.objs.size)
      have I1 := I.laid (a := s.heap.objs.size) (o := .dK []) (h' := s.heap.push { cls := .type "dict", data := .dict #[] }) (t' := s.toks) (fun _ _ q => Heap.get?_push_of_some _ q) (Nat.le_refl _) (dk_empty s.heap I.big)
      have okh := ok.hide (o := .dK []) hp
      have xh := Ext.hide ok (o := .dK []) hp
      refine wpAny_Dict_walk (knd := mixKind X.prog X.w) hall hl h0 h15 (thn (h.run pins _ σ _ (fun zs H2 => ∃ w2, w2.M = M1 ∧ w2.H = H2 ∧ Ok X.K X.w w2 ∧ Ext (w.hide s.heap.objs.size (.dK [])) w2 ∧ Dvs X.K X.w w2 (zs.map (·.1)) (ps.map (·.1)) ∧ Dvs X.K X.w w2 (zs.map (·.2)) (ps.map (·.2))) I1 ?_) fun ws s2 ⟨zs, H2, I2, rel, w2, hM2, hH2, ok2, x2, d1, d2⟩ => ?_)
      · exact pairs_read (w := w.hide s.heap.objs.size (.dK [])) okh (er.mono xh) h1 fun w2 zs hM ok2 x2 r1 r2 => ⟨w2, hM, rfl, ok2, x2, r1, r2⟩
      · subst hH2
        have hpx : s.heap.objs.size ∈ (w.hide s.heap.objs.size (.dK [])).ex := List.mem_cons_self
        have hp2 : w2.H s.heap.objs.size = some (.dK []) := (x2.hid _ hpx).trans upd_same
        obtain ⟨e1, e2⟩ := strKeys_ok hxs d1
        obtain ⟨rs, c, k1, v1⟩ := carries_strs (P := X.prog) (W := X.w) rel e1
        obtain ⟨z, hd, vs0, r0, dd⟩ := dk_of I2.hok hp2
        cases r0
        refine ⟨rs, c, dd, fun h' dd' hs => ?_⟩
        have nd1 : (rs.map (·.1)).Nodup := by
          rw [k1, List.nodup_iff_pairwise_ne, List.pairwise_map]
          exact (List.nodup_iff_pairwise_ne.mp hnd.1).imp fun h e => h (Sum.inr.inj e)
        rw [merged_new (by simpa using nd1), List.nil_append] at dd'
        obtain ⟨o, es, ep, ho, rd, ka⟩ := raw_of dd' k1 v1 hnd.1 (by rw [sizeLine_eq]; omega) hd
        rw [← e2] at ka
        have mu : Mut (w2.H s.heap.objs.size) := by rw [hp2]; exact True.intro
        have I3 : Inv X pins σ (L2.upd w2.H s.heap.objs.size (RawIs s.heap.objs.size o)) { s2 with heap := h', toks := s2.toks + ws.length } :=
          d_write I2 mu hs ⟨o, ho⟩ ⟨ho, ⟨o, ho⟩, fun h1 h2 p q => q _ p⟩
        have hpin : s.heap.objs.size ∈ w2.ex := x2.exm _ hpx
        have hsub : ∀ a ∈ w.ex, a ∈ w2.ex := fun a ha => x2.exm a (List.mem_cons_of_mem _ ha)
        have e0 := Ext0.bare ok2 (o := RawIs s.heap.objs.size o) (c := .dic (ps.map (·.1)) (ps.map (·.2))) (ex := w.ex) hpin hp2 True.intro hsub
        have ok3 := ok2.bare (o := RawIs s.heap.objs.size o) (c := .dic (ps.map (·.1)) (ps.map (·.2))) hpin hp2 True.intro hsub (ok.exf hp) ⟨o, es, ep, _, _, upd_same, rd, ka, by rw [← e1]; exact Dvs.mono0 e0 _ _ d1, Dvs.mono0 e0 _ _ d2⟩
        have xx : Ext w w2 := xh.trans x2
        refine ⟨.ref s.heap.objs.size, _, I3, rfl, f (w2.bare s.heap.objs.size (RawIs s.heap.objs.size o) (.dic (ps.map (·.1)) (ps.map (·.2))) w.ex) _ ?_ ok3 (Ext.bare ok ok2 xx hp) ?_⟩
        · show w2.M ++ _ = _
          rw [hM2]
        · rw [← hM2]
          exact bare_ref ok2
    · cases hm
  · cases hm
theorem pps_nilD {pos : Pos} : PPs X pos [] [] (([] : PM).map fun p => (tE X.K X.w p.1, tE X.K X.w p.2)) := pps_nil
theorem pps_consD {pos : Pos} {k v : Expr} {ks : List (Option Expr)} {vs : List Expr} {mk mv : EM} {pm : PM} (hk : RE X k mk) (hv : RE X v mv) (hr : PPs X pos ks vs (pm.map fun p => (tE X.K X.w p.1, tE X.K X.w p.2))) :
    PPs X pos (some k :: ks) (v :: vs) (((mk, mv) :: pm).map fun p => (tE X.K X.w p.1, tE X.K X.w p.2)) := pps_cons hk hv hr
end
end DL
/-! The data layer, part h: the order of nested keys; starred items of displays; a def that is out of fuel. -/
namespace DL
open PySem PySem.Spec PyProof.Rows L2

theorem fn_none {P : Program} {W : World} {K : PySem.W.Frag} {mg : Str → Option Value} {base : Heap} {k n : Nat} {f : Addr} {fd : FuncData} {ps : List Str} : FnOk P W K mg base CX0 k f fd ps (spF K W n fun _ _ => none) :=
  ⟨fun vs H Q E h => (by obtain ⟨w, ds, d, M', _, _, _, _, h, _⟩ := h; cases h), fun A outer s H args us vs Q E _ _ _ _ h => (by obtain ⟨w, ds, d, M', _, _, _, _, h, _⟩ := h; cases h)⟩

/-! ### starred items -/
section
variable {X : Cx} {K : PySem.W.Frag} {W : World}
def starA (m : EM) (r : AM) : AM := fun e M => thn1 (m e M) fun d M1 => match seqAt M1 d with
  | some ds => thn1 (r e M1) fun es M2 => some (ds ++ es, M2)
  | none => none
theorem ra_star {e : Expr} {p : Pos} {es : List Expr} {m : EM} {r : AM} (he : RE X e m) (hr : RA X es r) (hs : starEach (.Starred e p :: es) X.env = (true, eval e X.env) :: starEach es X.env := by rfl) : RA X (.Starred e p :: es) (starA m r) := by
  refine pa_weak (StX.pa_star he hr hs) fun σ H Q q => ?_
  obtain ⟨w, sl, ds, M', rfl, ok, er, hm, f⟩ := q
  obtain ⟨d, M1, h1, hm⟩ := thn1_eq hm
  split at hm
  · rename_i xs hx
    obtain ⟨ys, M2, h2, hm⟩ := thn1_eq hm
    cases hm
    refine ⟨w, sl, d, M1, rfl, ok, er, h1, fun w1 v hM1 ok1 x1 rv => ?_⟩
    obtain ⟨a, us, rfl, hq, ru⟩ := seqAt_ok ok1 rv (by rw [hM1]; exact hx)
    refine ⟨a, us, rfl, hq.symm, w1, sl, ys, _, rfl, ok1, er.mono x1, by rw [hM1]; exact h2, fun w2 vs hM2 ok2 x2 r2 => ?_⟩
    exact f w2 (us ++ vs) hM2 ok2 (x1.trans x2) ((ru.mono x2).append r2)
  · cases hm
end

/-! ### the order of nested keys: as Python's < goes, none where it raises -/
mutual
def ltK : NestedKey → NestedKey → Option Bool
  | .num a, .num b => some (decide (a < b))
  | .text a, .text b => some (decide (a.cps.toList < b.cps.toList))
  | .tup a, .tup b => ltKs a b
  | .none, _ => none
  | .num _, .none => none
  | .num _, .text _ => none
  | .num _, .tup _ => none
  | .text _, .none => none
  | .text _, .num _ => none
  | .text _, .tup _ => none
  | .tup _, .none => none
  | .tup _, .num _ => none
  | .tup _, .text _ => none
def ltKs : List NestedKey → List NestedKey → Option Bool
  | [], [] => some false
  | [], _ :: _ => some true
  | _ :: _, [] => some false
  | x :: xs, y :: ys => if x = y then ltKs xs ys else ltK x y
end
mutual
/-- the value v is the key; no truth values -/
inductive OrdIs (h : Heap) : NestedKey → Value → Prop
  | none : OrdIs h .none .none
  | int (i t) : OrdIs h (.num i) (.int i t)
  | text (x t) : OrdIs h (.text x) (.str x t)
  | tup {a o vs n ks} : h.get? a = some o → o.cls = .type "tuple" → o.data = .seq vs n → OrdAll h ks vs.toList → OrdIs h (.tup ks) (.ref a)
inductive OrdAll (h : Heap) : List NestedKey → List Value → Prop
  | nil : OrdAll h [] []
  | cons {k v ks vs} : OrdIs h k v → OrdAll h ks vs → OrdAll h (k :: ks) (v :: vs)
end
mutual
theorem OrdIs.nested {h : Heap} : ∀ (k : NestedKey) (v : Value), OrdIs h k v → NestedIs h k v
  | .none, _, r => by cases r; exact .none
  | .num i, _, r => by cases r; exact .int _ _
  | .text x, _, r => by cases r; exact .text _ _
  | .tup ks, _, r => by cases r with | tup h1 h2 h3 h4 => exact .tup h1 h2 h3 (OrdAll.nested ks _ h4)
theorem OrdAll.nested {h : Heap} : ∀ (ks : List NestedKey) (vs : List Value), OrdAll h ks vs → NestedAll h ks vs
  | [], _, r => by cases r; exact .nil
  | k :: ks, _, r => by cases r with | cons h1 h2 => exact .cons (OrdIs.nested k _ h1) (OrdAll.nested ks _ h2)
end
mutual
theorem OrdIs.keeps {h h' : Heap} (hk : ∀ a o, h.get? a = some o → h'.get? a = some o) : ∀ (k : NestedKey) (v : Value), OrdIs h k v → OrdIs h' k v
  | .none, _, r => by cases r; exact .none
  | .num i, _, r => by cases r; exact .int _ _
  | .text x, _, r => by cases r; exact .text _ _
  | .tup ks, _, r => by cases r with | tup h1 h2 h3 h4 => exact .tup (hk _ _ h1) h2 h3 (OrdAll.keeps hk ks _ h4)
theorem OrdAll.keeps {h h' : Heap} (hk : ∀ a o, h.get? a = some o → h'.get? a = some o) : ∀ (ks : List NestedKey) (vs : List Value), OrdAll h ks vs → OrdAll h' ks vs
  | [], _, r => by cases r; exact .nil
  | k :: ks, _, r => by cases r with | cons h1 h2 => exact .cons (OrdIs.keeps hk k _ h1) (OrdAll.keeps hk ks _ h2)
end
/-- the first two that differ decide; else the lengths -/
def Lx (A : Around) (s : Shared) : List Value → List Value → Bool → Prop
  | [], [], b => b = false
  | [], _ :: _, b => b = true
  | _ :: _, [], b => b = false
  | x :: xs, y :: ys, b => ∃ e, SeqAt.EqAt A s x y e ∧ (e = true → Lx A s xs ys b) ∧ (e = false → Ob.RcOp .Lt A s x y b)
theorem zip_cons {α β : Type} {us : List α} {vs : List β} {p : α × β} {r : List (α × β)} (h : p :: r = us.zip vs) : ∃ u ut v vt, us = u :: ut ∧ vs = v :: vt ∧ p = (u, v) ∧ r = ut.zip vt := by
  cases us with
  | nil => cases h
  | cons u ut =>
    cases vs with
    | nil => cases h
    | cons v vt =>
      rw [List.zip_cons_cons] at h
      cases h
      exact ⟨u, ut, v, vt, rfl, rfl, rfl, rfl⟩
theorem Lx.done {A : Around} {s : Shared} {us vs : List Value} {b : Bool} (h : Lx A s us vs b) (e : [] = us.zip vs) : b = decide (us.length < vs.length) := by
  cases us with
  | nil =>
    cases vs with
    | nil => exact h
    | cons v vt =>
      have h : b = true := h
      rw [h]; simp
  | cons u ut =>
    cases vs with
    | nil =>
      have h : b = false := h
      rw [h]; simp
    | cons v vt => cases e
open PySem.AutoSeq1 (wpAny_loadPart') in
theorem tuple_ltF (l b : Addr) (items items2 : Array Value) (n n2 : Nat) (dd dd2 : Option Addr) (sl sl2 : Array (Option Value)) (c : Bool) :
    Meets (Builtin.«tuple.__lt__» ⟨[.ref l, .ref b], []⟩)
      (fun A R s => s.heap.get? l = some { cls := .type "tuple", dict := dd, data := .seq items n, slots := sl } ∧ s.heap.get? b = some { cls := .type "tuple", dict := dd2, data := .seq items2 n2, slots := sl2 } ∧
        Lx A.in1 s items.toList items2.toList c ∧ R (.ok (.ret (.bool c))) s) :=
  .of_wp fun prog w A R s h => by
    obtain ⟨hp, g, d, tk, os⟩ := s; obtain ⟨hl, hb, he, h⟩ := h
    have f2 := AutoSeq1.sub_tuple_tuple
    wp_walk using wpAny_loadPart' hl, wpAny_loadPart' hb, wpAny_forIn_list _ (fun rest b s' => b.1 = none ∧ s' = ⟨hp, g, d, tk, os⟩ ∧ ∃ us vs, rest = us.zip vs ∧ Lx A.in1 ⟨hp, g, d, tk, os⟩ us vs c ∧
      decide (us.length < vs.length) = decide (items.size < items2.size)) _
    case turn =>
      rintro ⟨y, x⟩ rest b s' ⟨hb', rfl, us, vs, hz, hL, hs⟩
      obtain ⟨u, ut, v, vt, rfl, rfl, ep, rfl⟩ := zip_cons hz
      cases ep
      obtain ⟨e, h1, h2, h3⟩ := hL
      refine wpAny_bind (h1 prog w _ _ ?_)
      cases e with
      | true =>
        wp_walk
        exact ⟨rfl, rfl, ut, vt, rfl, h2 rfl, by simpa using hs⟩
      | false =>
        have hri := h3 rfl prog w
        wp_walk using hri
        exact ⟨_, rfl, by simpa using h⟩
    case fin =>
      rintro ⟨b1, b2⟩ s' ⟨hb', rfl, us, vs, hz, hL, hs⟩
      simp only at hb'
      subst hb'
      have e := (hL.done hz).trans hs
      wp_walk
      exact ⟨_, rfl, by simpa [Builtin.Tuple.tupleCompareSizes, e] using h⟩
    case h =>
      exact ⟨rfl, rfl, items.toList, items2.toList, rfl, he, by simp⟩
theorem tuples_ltF {A : Around} {s : Shared} {l b : Addr} {items items2 : Array Value} {c : Bool} (hl : s.heap.IsTuple l items) (hb : s.heap.IsTuple b items2) (hu : A.units < cLine) (h : Lx A.in1 s items.toList items2.toList c) : Ob.RcOp .Lt A s (.ref l) (.ref b) c := fun prog w E Q q => by
  obtain ⟨⟨cls, dd, data, sl⟩, ho, hc, n, hd⟩ := id hl
  obtain ⟨⟨cls2, dd2, data2, sl2⟩, ho2, hc2, n2, hd2⟩ := id hb
  simp only at hc hd hc2 hd2
  subst hc hd hc2 hd2
  exact richCompare_meets_room (op := .Lt) ⟨_, ho, rfl⟩ ⟨_, ho2, rfl⟩ F.slot_tuple_lt F.entry_tuple_lt (F.args_tuple_lt_2 _ _) (tuple_ltF l b items items2 n n2 dd dd2 sl sl2 c)
    ⟨ho, ho2, h, ⟨(fun x => nomatch x), q⟩⟩ hu
mutual
theorem ltK_rc : ∀ (x y : NestedKey) (A : Around) (s : Shared) (a b : Value) (r : Bool), OrdIs s.heap x a → OrdIs s.heap y b → ltK x y = some r → A.units + min x.depth y.depth < cLine → Ob.RcOp .Lt A s a b r
  | .none, y, _, _, _, _, _, _, _, h, _ => by cases y <;> simp [ltK] at h
  | .num i, y, A, s, _, _, r, hx, hy, h, hu => by
    cases y <;> simp only [ltK, Option.some.injEq, reduceCtorEq] at h
    subst h
    cases hx
    cases hy
    exact Ob.RcOp.lt_int _ _ _ _
  | .text i, y, A, s, _, _, r, hx, hy, h, hu => by
    cases y <;> simp only [ltK, Option.some.injEq, reduceCtorEq] at h
    subst h
    cases hx
    cases hy
    exact fun prog w E Q q => PyProof.Rows.lt_str q
  | .tup xs, y, A, s, _, _, r, hx, hy, h, hu => by
    cases y with
    | tup ys =>
      rw [ltK] at h
      simp only [NestedKey.depth] at hu
      cases hx with
      | tup h1 h2 h3 h4 =>
        cases hy with
        | tup k1 k2 k3 k4 =>
          exact tuples_ltF ⟨_, h1, h2, _, h3⟩ ⟨_, k1, k2, _, k3⟩ (by omega) (ltKs_lx xs ys A.in1 s _ _ r h4 k4 h (by show A.units + 1 + _ < _; omega))
    | _ => simp [ltK] at h
theorem ltKs_lx : ∀ (xs ys : List NestedKey) (A : Around) (s : Shared) (us vs : List Value) (r : Bool), OrdAll s.heap xs us → OrdAll s.heap ys vs → ltKs xs ys = some r → A.units + min (NestedKey.depthAll xs) (NestedKey.depthAll ys) < cLine → Lx A s us vs r
  | [], [], _, _, _, _, r, hx, hy, h, _ => by
    cases hx; cases hy
    simp only [ltKs, Option.some.injEq] at h
    exact h.symm
  | [], _ :: _, _, _, _, _, r, hx, hy, h, _ => by
    cases hx
    cases hy
    simp only [ltKs, Option.some.injEq] at h
    exact h.symm
  | _ :: _, [], _, _, _, _, r, hx, hy, h, _ => by
    cases hx
    cases hy
    simp only [ltKs, Option.some.injEq] at h
    exact h.symm
  | x :: xs, y :: ys, A, s, _, _, r, hx, hy, h, hu => by
    cases hx with
    | cons h1 h2 =>
      cases hy with
      | cons k1 k2 =>
        simp only [NestedKey.depthAll] at hu
        refine ⟨NestedKey.beq x y, eqAt_key x y A s _ _ (OrdIs.nested _ _ h1) (OrdIs.nested _ _ k1) (by omega), fun e => ?_, fun e => ?_⟩
        · have exy : x = y := NestedKey.eq_of_beq _ _ e
          rw [ltKs, if_pos exy] at h
          exact ltKs_lx xs ys A s _ _ r h2 k2 h (by omega)
        · have exy : ¬ x = y := fun z => by rw [z, NestedKey.beq_self] at e; cases e
          rw [ltKs, if_neg exy] at h
          exact ltK_rc x y A s _ _ r h1 k1 h (by omega)
end
/-! ### data as keys that can be put in order -/
mutual
def toOrd : Dt → Option NestedKey
  | .non => some .none
  | .int i => some (.num i)
  | .str x => some (.text x)
  | .tup ds => (toOrds ds).map .tup
  | .bl _ => none
  | .adr _ => none
  | .ty _ => none
  | .ref _ => none
  | .lst _ => none
  | .lsk _ => none
  | .dic _ _ => none
  | .obj _ _ _ => none
  | .sett _ => none
def toOrds : List Dt → Option (List NestedKey)
  | [] => some []
  | d :: ds => match toOrd d, toOrds ds with
    | some k, some ks => some (k :: ks)
    | _, _ => none
end
theorem toOrds_cons {d : Dt} {ds : List Dt} {ns : List NestedKey} (h : toOrds (d :: ds) = some ns) : ∃ k r, toOrd d = some k ∧ toOrds ds = some r ∧ ns = k :: r := by
  rw [toOrds] at h
  cases h1 : toOrd d with
  | none => simp [h1] at h
  | some k =>
    cases h2 : toOrds ds with
    | none => simp [h1, h2] at h
    | some r =>
      simp only [h1, h2, Option.some.injEq] at h
      exact ⟨k, r, rfl, rfl, h.symm⟩
section
variable {X : Cx} {pins : List (Addr × Obj)} {σ : L2.St} {s : Shared} {w : Ws}
mutual
theorem Dv.ord (I : Inv X pins σ w.H s) : ∀ (d : Dt) (v : V) (n : NestedKey) (u : Value), Dv X.K X.w w v d → toOrd d = some n → RelV v u → OrdIs s.heap n u
  | .non, _, _, _, h, e, r => by cases h; simp [toOrd] at e; subst e; cases r; exact .none
  | .int i, _, _, _, h, e, r => by cases h; simp [toOrd] at e; subst e; obtain ⟨t, rfl⟩ := r; exact .int _ _
  | .str x, _, _, _, h, e, r => by cases h; simp [toOrd] at e; subst e; obtain ⟨t, rfl⟩ := r; exact .text _ _
  | .tup ds, _, n, _, h, e, r => by
    rw [toOrd, Option.map_eq_some_iff] at e
    obtain ⟨ns, e, rfl⟩ := e
    cases h with
    | tup h1 h2 =>
      cases r
      obtain ⟨its, rv, ⟨o, ho, hc, k, hd⟩, _⟩ := I.tuple h1
      exact .tup ho hc hd (by simpa using Dvs.ord I ds _ ns its h2 e rv)
  | .bl _, _, _, _, _, e, _ => by simp [toOrd] at e
  | .lst _, _, _, _, _, e, _ => by simp [toOrd] at e
  | .lsk _, _, _, _, _, e, _ => by simp [toOrd] at e
  | .adr _, _, _, _, _, e, _ => by simp [toOrd] at e
  | .ty _, _, _, _, _, e, _ => by simp [toOrd] at e
  | .ref _, _, _, _, _, e, _ => by simp [toOrd] at e
  | .dic _ _, _, _, _, _, e, _ => by simp [toOrd] at e
  | .obj _ _ _, _, _, _, _, e, _ => by simp [toOrd] at e
  | .sett _, _, _, _, _, e, _ => by simp [toOrd] at e
theorem Dvs.ord (I : Inv X pins σ w.H s) : ∀ (ds : List Dt) (vs : List V) (ns : List NestedKey) (us : List Value), Dvs X.K X.w w vs ds → toOrds ds = some ns → Vals vs us → OrdAll s.heap ns us
  | [], _, _, _, h, e, r => by cases h; simp [toOrds] at e; subst e; cases r; exact .nil
  | d :: ds, _, ns, _, h, e, r => by
    obtain ⟨k, ks, e1, e2, rfl⟩ := toOrds_cons e
    cases h with
    | cons h1 h2 =>
      cases r with
      | cons r1 r2 => exact .cons (Dv.ord I d _ k _ h1 e1 r1) (Dvs.ord I ds _ ks _ h2 e2 r2)
end
end
def ordN (d : Dt) : Option NestedKey := match toOrd d with
  | some n => if n.depth ≤ 16 then some n else none
  | none => none
theorem ordN_some {d : Dt} {n : NestedKey} (h : ordN d = some n) : toOrd d = some n ∧ n.depth ≤ 16 := by
  unfold ordN at h
  split at h
  · rename_i m hm
    split at h
    · rename_i hd
      cases h
      exact ⟨hm, hd⟩
    · cases h
  · cases h
/-- x < y -/
def ltO (a b : Dt) : Option Bool := match ordN a, ordN b with
  | some x, some y => ltK x y
  | _, _ => none
section
variable {X : Cx} {K : PySem.W.Frag} {W : World}
def rLtA (K : PySem.W.Frag) (W : World) (sw : Bool) : R2 := fun x y H Q => ∃ w a b r, w.H = H ∧ Ok K W w ∧ Dv K W w x a ∧ Dv K W w y b ∧ ltO a b = some r ∧ Q (.bl r) H
theorem op_ltA {k : Nat} (hr : Room k X.A) : OpR X (compareOp .Lt) (rLtA X.K X.w false) := by
  intro pins s σ H x y v u Q I rx ry h
  obtain ⟨w, a, b, r, rfl, ok, da, db, hi, q⟩ := h
  have hu := hr.un
  unfold ltO at hi
  split at hi
  · rename_i n m hn hm
    obtain ⟨hn1, hn2⟩ := ordN_some hn
    obtain ⟨hm1, hm2⟩ := ordN_some hm
    exact ltK_rc n m X.A s v u r (Dv.ord I a x n v da hn1 rx) (Dv.ord I b y m u db hm1 ry) hi (by omega) X.prog X.w X.xe _ ⟨.bl _, w.H, I, rfl, q⟩
  · cases hi
def ltD : Dt → Dt → Mem → Option (Dt × Mem) := fun a b M => pur ((ltO a b).map .bl) M
theorem lt_ok : R2Ok K W (rLtA K W false) ltD := by
  intro w x y a b d M' Q ok rx ry h f
  replace h := pur_eq h
  obtain ⟨rfl, h⟩ := h
  obtain ⟨r, hr, rfl⟩ := Option.map_eq_some_iff.mp h
  exact ⟨w, a, b, r, rfl, ok, rx, ry, hr, fin_here f ok (.bl _)⟩
theorem re_lt {a b : Expr} {pos : Pos} {k : Nat} {ma mb : EM} (hr : Room k X.A) (ha : RE X a ma) (hb : RE X b mb) : RE X (.Compare a [.Lt] [b] pos) (opE ltD ma mb) := re_cmp (op_ltA hr) lt_ok (nomark _) ha hb
theorem rt_lt {a b : Expr} {pos : Pos} {k : Nat} {ma mb : EM} (hr : Room k X.A) (ha : RE X a ma) (hb : RE X b mb) : RT X (.Compare a [.Lt] [b] pos) (blT (opE ltD ma mb)) := rt_cmp (op_ltA hr) lt_ok (nomark _) ha hb
end
end DL
/-! The data layer, part i: nested keys can be sorted. -/
namespace DL
open PySem PySem.Spec PyProof.Rows L2

/-! ### a key as a row of signs, for the sort's total order -/
mutual
def tkK : NestedKey → List (Int ⊕ List Nat)
  | .none => [.inl 0]
  | .num n => [.inl 1, .inl n]
  | .text x => [.inl 2, .inr x.cps.toList]
  | .tup ks => .inl 3 :: tkKs ks
def tkKs : List NestedKey → List (Int ⊕ List Nat)
  | [] => [.inl 0]
  | x :: xs => .inl 1 :: (tkK x ++ tkKs xs)
end
/-- two rows differ within both -/
def Dif (a b : List (Int ⊕ List Nat)) : Prop := ∃ p c d l m, a = p ++ c :: l ∧ b = p ++ d :: m ∧ c ≠ d
theorem Dif.app {a b : List (Int ⊕ List Nat)} (h : Dif a b) (x y : List (Int ⊕ List Nat)) : Dif (a ++ x) (b ++ y) := by
  obtain ⟨p, c, d, l, m, rfl, rfl, hn⟩ := h
  exact ⟨p, c, d, l ++ x, m ++ y, by simp, by simp, hn⟩
theorem Dif.pre {a b : List (Int ⊕ List Nat)} (h : Dif a b) (q : List (Int ⊕ List Nat)) : Dif (q ++ a) (q ++ b) := by
  obtain ⟨p, c, d, l, m, rfl, rfl, hn⟩ := h
  exact ⟨q ++ p, c, d, l, m, by simp, by simp, hn⟩
theorem Dif.head {c d : Int ⊕ List Nat} {l m : List (Int ⊕ List Nat)} (h : c ≠ d) : Dif (c :: l) (d :: m) := ⟨[], c, d, l, m, rfl, rfl, h⟩
theorem Dif.tail {c : Int ⊕ List Nat} {l m : List (Int ⊕ List Nat)} (h : Dif l m) : Dif (c :: l) (c :: m) := h.pre [c]
theorem str_cps {x y : Str} (h : x.cps.toList = y.cps.toList) : x = y := PySem.W.str_of_cps h
mutual
theorem tk_diff : ∀ x y : NestedKey, x ≠ y → Dif (tkK x) (tkK y)
  | .none, y, h => by cases y <;> simp only [tkK] <;> first | exact absurd rfl h | exact Dif.head (by simp)
  | .num i, y, h => by
    cases y <;> simp only [tkK]
    case num j => exact Dif.tail (Dif.head fun e => h (by rw [Sum.inl.inj e]))
    all_goals exact Dif.head (by simp)
  | .text i, y, h => by
    cases y <;> simp only [tkK]
    case text j => exact Dif.tail (Dif.head fun e => h (by rw [str_cps (Sum.inr.inj e)]))
    all_goals exact Dif.head (by simp)
  | .tup xs, y, h => by
    cases y <;> simp only [tkK]
    case tup ys => exact Dif.tail (tks_diff xs ys fun e => h (by rw [e]))
    all_goals exact Dif.head (by simp)
theorem tks_diff : ∀ xs ys : List NestedKey, xs ≠ ys → Dif (tkKs xs) (tkKs ys)
  | [], [], h => absurd rfl h
  | [], _ :: _, _ => by simp only [tkKs]; exact Dif.head (by simp)
  | _ :: _, [], _ => by simp only [tkKs]; exact Dif.head (by simp)
  | x :: xs, y :: ys, h => by
    simp only [tkKs]
    by_cases e : x = y
    · subst e
      exact Dif.tail ((tks_diff xs ys fun e => h (by rw [e])).pre _)
    · exact Dif.tail ((tk_diff x y e).app _ _)
end
abbrev blL (a b : List (Int ⊕ List Nat)) : Bool := lexLt itemOrd a b
theorem bl_dif {a b : List (Int ⊕ List Nat)} (h : Dif a b) (x y : List (Int ⊕ List Nat)) : blL (a ++ x) (b ++ y) = blL a b := by
  obtain ⟨p, c, d, l, m, rfl, rfl, hn⟩ := h
  unfold blL
  rw [List.append_assoc, List.append_assoc, PySem.W.lex_pre, PySem.W.lex_pre, List.cons_append, List.cons_append, lex_diff (O := itemOrd) hn, lex_diff (O := itemOrd) hn]
theorem bl_tail (c : Int ⊕ List Nat) (l m : List (Int ⊕ List Nat)) : blL (c :: l) (c :: m) = blL l m := lex_self (O := itemOrd) c l m
theorem bl_one (c d : Int ⊕ List Nat) : blL [c] [d] = itemLt c d := by
  unfold blL
  rw [lex_cons]
  show (itemLt c d || (!itemLt d c && false)) = _
  simp
mutual
theorem lt_tk : ∀ (x y : NestedKey) (r : Bool), ltK x y = some r → blL (tkK x) (tkK y) = r
  | .none, y, r, h => by cases y <;> simp [ltK] at h
  | .num i, y, r, h => by
    cases y <;> simp only [ltK, Option.some.injEq, reduceCtorEq] at h
    subst h
    simp only [tkK]
    rw [bl_tail, bl_one]
    rfl
  | .text i, y, r, h => by
    cases y <;> simp only [ltK, Option.some.injEq, reduceCtorEq] at h
    subst h
    simp only [tkK]
    rw [bl_tail, bl_one]
    rfl
  | .tup xs, y, r, h => by
    cases y with
    | tup ys =>
      rw [ltK] at h
      simp only [tkK]
      rw [bl_tail]
      exact lts_tk xs ys r h
    | _ => simp [ltK] at h
theorem lts_tk : ∀ (xs ys : List NestedKey) (r : Bool), ltKs xs ys = some r → blL (tkKs xs) (tkKs ys) = r
  | [], [], r, h => by
    simp only [ltKs, Option.some.injEq] at h
    subst h
    exact lex_irrefl (O := itemOrd) _
  | [], _ :: _, r, h => by
    simp only [ltKs, Option.some.injEq] at h
    subst h
    simp only [tkKs]
    unfold blL
    rw [lex_diff (O := itemOrd) (by simp)]
    rfl
  | _ :: _, [], r, h => by
    simp only [ltKs, Option.some.injEq] at h
    subst h
    simp only [tkKs]
    unfold blL
    rw [lex_diff (O := itemOrd) (by simp)]
    rfl
  | x :: xs, y :: ys, r, h => by
    simp only [tkKs]
    rw [bl_tail]
    rw [ltKs] at h
    split at h
    · rename_i e
      subst e
      unfold blL
      rw [PySem.W.lex_pre]
      exact lts_tk xs ys r h
    · rename_i e
      rw [bl_dif (tk_diff x y e)]
      exact lt_tk x y r h
end
/-! ### what list.sort asks of its keys -/
/-- the kind that list.sort finds: of the keys, or of their first items -/
def hdK : NestedKey → Option Nat
  | .num _ => some 11
  | .text _ => some 12
  | .tup (.none :: _) => some 0
  | .tup (.num _ :: _) => some 1
  | .tup (.text _ :: _) => some 2
  | .tup (.tup _ :: _) => some 3
  | _ => none
def srtB (ns : List NestedKey) : Bool := (match ns with
  | [] => true
  | n :: _ => (hdK n).isSome && ns.all fun m => hdK m == hdK n) && ns.all fun x => decide (x.depth ≤ 16) && ns.all fun y => (ltK x y).isSome
theorem srtB_depth {ns : List NestedKey} (h : srtB ns = true) {x : NestedKey} (hx : x ∈ ns) : x.depth ≤ 16 := by
  unfold srtB at h
  rw [Bool.and_eq_true, List.all_eq_true] at h
  have := h.2 x hx
  rw [Bool.and_eq_true] at this
  simpa using this.1
theorem srtB_lt {ns : List NestedKey} (h : srtB ns = true) {x y : NestedKey} (hx : x ∈ ns) (hy : y ∈ ns) : ∃ r, ltK x y = some r := by
  unfold srtB at h
  rw [Bool.and_eq_true, List.all_eq_true] at h
  have := h.2 x hx
  rw [Bool.and_eq_true, List.all_eq_true] at this
  exact Option.isSome_iff_exists.mp (this.2 y hy)
theorem srtB_hd {n : NestedKey} {ns : List NestedKey} (h : srtB (n :: ns) = true) : ∃ t, ∀ m ∈ n :: ns, hdK m = some t := by
  unfold srtB at h
  rw [Bool.and_eq_true, Bool.and_eq_true, List.all_eq_true] at h
  obtain ⟨t, ht⟩ := Option.isSome_iff_exists.mp h.1.1
  refine ⟨t, fun m hm => ?_⟩
  have := h.1.2 m hm
  rw [ht] at this
  simpa using this
noncomputable def ordKind (h : Heap) (ns : List NestedKey) : PyProof.Rows.KeyKind where
  toKeyOrd := listOrd itemOrd
  keyOf v := open Classical in if q : ∃ n, n ∈ ns ∧ OrdIs h n v then some (tkK q.choose) else none
  dflt := ([] : List (Int ⊕ List Nat))
theorem ordKind_some {h : Heap} {ns : List NestedKey} {v : Value} {n : NestedKey} (hn : n ∈ ns) (r : OrdIs h n v) : (ordKind h ns).keyOf v = some (tkK n) := by
  have q : ∃ n, n ∈ ns ∧ OrdIs h n v := ⟨n, hn, r⟩
  have e : (ordKind h ns).keyOf v = some (tkK q.choose) := by
    show (open Classical in if q : ∃ n, n ∈ ns ∧ OrdIs h n v then some (tkK q.choose) else none) = _
    rw [dif_pos q]
  rw [e, NestedIs.inj _ _ _ (OrdIs.nested _ _ q.choose_spec.2) (OrdIs.nested _ _ r)]
theorem ordKind_inv {h : Heap} {ns : List NestedKey} {v : Value} {k : List (Int ⊕ List Nat)} (e : (ordKind h ns).keyOf v = some k) : ∃ n, n ∈ ns ∧ OrdIs h n v ∧ k = tkK n := by
  by_cases q : ∃ n, n ∈ ns ∧ OrdIs h n v
  · have e' : (ordKind h ns).keyOf v = some (tkK q.choose) := by
      show (open Classical in if q : ∃ n, n ∈ ns ∧ OrdIs h n v then some (tkK q.choose) else none) = _
      rw [dif_pos q]
    obtain ⟨h1, h2⟩ := q.choose_spec
    rw [e'] at e
    exact ⟨_, h1, h2, (Option.some.inj e).symm⟩
  · have e' : (ordKind h ns).keyOf v = none := by
      show (open Classical in if q : ∃ n, n ∈ ns ∧ OrdIs h n v then some (tkK q.choose) else none) = _
      rw [dif_neg q]
      rfl
    rw [e'] at e
    exact absurd e (by simp)
theorem OrdAll.left {h : Heap} : ∀ {ns : List NestedKey} {vs : List Value} {v : Value}, OrdAll h ns vs → v ∈ vs → ∃ n, n ∈ ns ∧ OrdIs h n v
  | _, _, _, .nil, hv => absurd hv (by simp)
  | _, _, v, .cons r t, hv => by
    rcases List.mem_cons.mp hv with rfl | hv
    · exact ⟨_, List.mem_cons_self, r⟩
    · obtain ⟨n, h1, h2⟩ := t.left hv
      exact ⟨n, List.mem_cons_of_mem _ h1, h2⟩
theorem OrdAll.length {h : Heap} : ∀ {ns : List NestedKey} {vs : List Value}, OrdAll h ns vs → vs.length = ns.length
  | _, _, .nil => rfl
  | _, _, .cons _ t => congrArg (· + 1) t.length
open PySem.Calls PySem.W in
theorem looks_ord {M : Model} {h : Heap} {n : NestedKey} {v : Value} (r : OrdIs h n v) : Looks M h (typeOf v) (match n with | .none => .type "NoneType" | .num _ => .type "int" | .text _ => .type "str" | .tup _ => .type "tuple") := by
  cases r with
  | none => exact Looks.of_pure rfl
  | int _ _ => exact Looks.of_pure rfl
  | text _ _ => exact Looks.of_pure rfl
  | tup h1 h2 h3 h4 =>
    show Looks M h (typeOf (Value.ref _)) (Value.type "tuple")
    exact h2 ▸ (Looks.ld h1).andThen .now
section
variable {prog : Program} {w : World} {A : Around} {E : Value → Shared → Prop} {s : Shared}
theorem oneLt_ord {f : Bool} {x y : NestedKey} {a b : Value} {r : Bool} {Q : Bool → Shared → Prop} (hx : OrdIs s.heap x a) (hy : OrdIs s.heap y b) (h : ltK x y = some r) (hu : A.units + min x.depth y.depth < cLine) (hf : f = true → ∀ t, x ≠ .tup t) (q : Q r s) : wpAny (model prog w) A (oneLt' f a b) Q E s := by
  cases f with
  | false =>
    rw [oneLt'_eq]
    simp only [Bool.false_eq_true, if_false]
    exact wpAny_bind (ltK_rc x y A s a b r hx hy h hu prog w E _ (wpAny_truthy_bool q))
  | true =>
    cases x with
    | none => cases y <;> simp [ltK] at h
    | num i =>
      cases y <;> simp only [ltK, Option.some.injEq, reduceCtorEq] at h
      subst h
      cases hx
      cases hy
      exact oneLt_int q
    | text i =>
      cases y <;> simp only [ltK, Option.some.injEq, reduceCtorEq] at h
      subst h
      cases hx
      cases hy
      exact oneLt_str q
    | tup t => exact absurd rfl (hf rfl t)
theorem katLex_ord {b fin : Bool} {r : Bool} {Q : Bool → Shared → Prop} : ∀ (xs ys : List NestedKey) (i : Nat) (vs ws : List Value), OrdAll s.heap xs vs → OrdAll s.heap ys ws → ltKs xs ys = some r →
    A.units + min (NestedKey.depthAll xs) (NestedKey.depthAll ys) < cLine → (b = true → i = 0 → ∀ x l t, xs = x :: l → x ≠ .tup t) → fin = decide (xs.length < ys.length) → Q r s → PySem.W.KatLex prog w A b fin Q (vs.zip ws) i s
  | [], [], i, _, _, ra, rb, h, _, _, hf, hq => by
    cases ra
    cases rb
    simp only [ltKs, Option.some.injEq] at h
    subst h
    have e : fin = false := by rw [hf]; rfl
    subst e
    exact PySem.W.kat_nil hq
  | [], y :: ys, i, _, _, ra, rb, h, _, _, hf, hq => by
    cases ra
    simp only [ltKs, Option.some.injEq] at h
    subst h
    have e : fin = true := by rw [hf]; exact decide_eq_true (Nat.succ_pos _)
    subst e
    rw [List.zip_nil_left]
    exact PySem.W.kat_nil hq
  | x :: xs, [], i, _, _, ra, rb, h, _, _, hf, hq => by
    cases rb
    simp only [ltKs, Option.some.injEq] at h
    subst h
    have e : fin = false := by rw [hf]; exact decide_eq_false (Nat.not_lt_zero _)
    subst e
    rw [List.zip_nil_right]
    exact PySem.W.kat_nil hq
  | x :: xs, y :: ys, i, _, _, ra, rb, h, hu, hb, hf, hq => by
    have hf' : fin = decide (xs.length < ys.length) := by
      rw [hf]
      simp only [List.length_cons, Nat.add_lt_add_iff_right]
    simp only [NestedKey.depthAll] at hu
    cases ra with
    | cons r1 rs =>
      cases rb with
      | cons k1 ks =>
        rw [List.zip_cons_cons]
        refine PySem.W.kat_cons (eqAt_key x y A s _ _ (OrdIs.nested _ _ r1) (OrdIs.nested _ _ k1) (by omega) prog w _ _ ?_)
        rw [ltKs] at h
        by_cases e : x = y
        · rw [if_pos e] at h
          rw [e, NestedKey.beq_self]
          exact PySem.W.kat_yes (katLex_ord xs ys (i + 1) _ _ rs ks h (by omega) (fun _ hi => absurd hi (Nat.succ_ne_zero i)) hf' hq)
        · rw [if_neg e] at h
          have e' : NestedKey.beq x y = false := by
            rw [← NestedKey.decide_eq]
            exact decide_eq_false e
          rw [e']
          refine PySem.W.kat_no (oneLt_ord r1 k1 h (by omega) (fun hbi t => ?_) hq)
          rw [Bool.and_eq_true] at hbi
          exact hb hbi.1 (by simpa using hbi.2) x xs t rfl
theorem each_katT {h : Heap} : ∀ {ns : List NestedKey} {vs : List Value}, OrdAll h ns vs → (∀ n ∈ ns, ∃ x r, n = .tup (x :: r)) → ∃ fs, PySem.W.KatTups h vs fs ∧ fs.length = vs.length ∧ ∀ f ∈ fs, ∃ x r, NestedKey.tup (x :: r) ∈ ns ∧ OrdIs h x f
  | _, _, .nil, _ => ⟨[], PySem.W.KatTups.nil, rfl, fun f hf => absurd hf (by simp)⟩
  | _, _, .cons (k := n) r t, ht => by
    obtain ⟨fs, h1, h2, h3⟩ := each_katT t fun d hd => ht d (List.mem_cons_of_mem _ hd)
    obtain ⟨x, rest, rfl⟩ := ht n List.mem_cons_self
    cases r with
    | @tup a o xs n _ ho hc hd hr =>
      cases q : xs.toList with
      | nil =>
        rw [q] at hr
        cases hr
      | cons f fr =>
        rw [q] at hr
        cases hr with
        | cons r1 r2 =>
          have hf : xs[0]? = some f := by rw [← Array.getElem?_toList, q]; rfl
          refine ⟨f :: fs, PySem.W.KatTups.cons ho hc hd hf h1, by rw [List.length_cons, List.length_cons, h2], fun g hg => ?_⟩
          rcases List.mem_cons.mp hg with rfl | hg
          · exact ⟨x, rest, List.mem_cons_self, r1⟩
          · obtain ⟨x', r', m1, m2⟩ := h3 g hg
            exact ⟨x', r', List.mem_cons_of_mem _ m1, m2⟩
theorem hd_tup {n : NestedKey} {t : Nat} (h : hdK n = some t) (ht : t ≤ 3) : ∃ x r, n = .tup (x :: r) ∧ t = (match x with | .none => 0 | .num _ => 1 | .text _ => 2 | .tup _ => 3) := by
  unfold hdK at h
  split at h <;> first | (cases h; omega) | (cases h; exact ⟨_, _, rfl, rfl⟩) | cases h
theorem sortsAt_ord {ns : List NestedKey} {vs : List Value} (h : OrdAll s.heap ns vs) (hb : srtB ns = true) (hu : A.units + 20 < cLine) : PySem.W.SortsAt prog w A s (ordKind s.heap ns) vs := by
  refine ⟨fun v hv => ?_, ?_⟩
  · obtain ⟨n, hn, r⟩ := h.left hv
    exact ⟨_, ordKind_some hn r⟩
  · cases ns with
    | nil =>
      cases h
      exact ⟨general', fun E x y a b Q ha _ _ => (by
        obtain ⟨d, hd, _⟩ := ordKind_inv ha
        exact absurd hd (by simp)), fun h2 => absurd h2 (by simp)⟩
    | cons n0 nr =>
      obtain ⟨t, ht⟩ := srtB_hd hb
      have all : ∀ n ∈ n0 :: nr, (t ≤ 3 ∧ ∃ x r, n = .tup (x :: r) ∧ t = (match x with | .none => 0 | .num _ => 1 | .text _ => 2 | .tup _ => 3)) ∨ (t = 11 ∧ ∃ i, n = .num i) ∨ (t = 12 ∧ ∃ x, n = .text x) := by
        intro n hn
        have h1 := ht n hn
        by_cases h3 : t ≤ 3
        · exact .inl ⟨h3, hd_tup h1 h3⟩
        · unfold hdK at h1
          split at h1 <;> first | cases h1 | skip
          · exact .inr (.inl ⟨rfl, _, rfl⟩)
          · exact .inr (.inr ⟨rfl, _, rfl⟩)
          all_goals omega
      by_cases h3 : t ≤ 3
      · have tups : ∀ n ∈ n0 :: nr, ∃ x r, n = .tup (x :: r) ∧ t = (match x with | .none => 0 | .num _ => 1 | .text _ => 2 | .tup _ => 3) := fun n hn => by
          rcases all n hn with q | q | q
          · exact q.2
          · omega
          · omega
        obtain ⟨fs, t1, t2, t3⟩ := each_katT h fun n hn => let ⟨x, r, e, _⟩ := tups n hn; ⟨x, r, e⟩
        let T : Value := if t = 0 then .type "NoneType" else if t = 1 then .type "int" else if t = 2 then .type "str" else .type "tuple"
        have hT2 : (T == T) = true := beq_self_eq_true _
        have hTt : (T != Value.type "tuple") = true → t ≠ 3 := fun q e => by
          have : T = Value.type "tuple" := by show (if t = 0 then _ else if t = 1 then _ else if t = 2 then _ else _) = _; rw [if_neg (by omega), if_neg (by omega), if_neg (by omega)]
          rw [this] at q
          exact absurd q (by simp)
        refine ⟨tuples' (T != Value.type "tuple"), ?_, fun h2 E Q hq => ?_⟩
        · intro E x y a b Q ha hb' hq
          obtain ⟨n, hn, ra, rfl⟩ := ordKind_inv ha
          obtain ⟨m, hm, rb, rfl⟩ := ordKind_inv hb'
          obtain ⟨r, hr⟩ := srtB_lt hb hn hm
          have hq' : Q (blL (tkK n) (tkK m)) s := hq
          rw [lt_tk n m r hr] at hq'
          have dn := srtB_depth hb hn
          obtain ⟨x1, r1, rfl, e1⟩ := tups n hn
          obtain ⟨x2, r2, rfl, e2⟩ := tups m hm
          rw [ltK] at hr
          simp only [NestedKey.depth] at dn
          cases ra with
          | tup h1 h2 h3' h4 =>
            cases rb with
            | tup k1 k2 k3 k4 =>
              have n1 := OrdAll.length h4
              have n2 := OrdAll.length k4
              rw [Array.length_toList] at n1 n2
              refine PySem.W.kat_lt h1 h3' k1 k3 (katLex_ord (x1 :: r1) (x2 :: r2) 0 _ _ h4 k4 hr (by omega) (fun hbt _ x l t ex => ?_) (by rw [n1, n2]) hq')
              obtain ⟨rfl, rfl⟩ := List.cons.inj ex
              rintro rfl
              exact hTt hbt e1
        · have hl : vs.length = (n0 :: nr).length := OrdAll.length h
          refine PySem.W.kat_kind (T := T) t1 (by rw [t2, hl]; simp) (fun f hf => ?_) hT2 hq
          obtain ⟨x, r, m1, m2⟩ := t3 f hf
          obtain ⟨x', r', e, et⟩ := tups _ m1
          cases e
          have := looks_ord (M := model prog w) m2
          cases x with
          | none =>
            have : T = Value.type "NoneType" := by show (if t = 0 then _ else _) = _; rw [if_pos et]
            rw [this]; assumption
          | num _ =>
            have : T = Value.type "int" := by show (if t = 0 then _ else if t = 1 then _ else _) = _; rw [if_neg (by rw [et]; simp), if_pos et]
            rw [this]; assumption
          | text _ =>
            have : T = Value.type "str" := by show (if t = 0 then _ else if t = 1 then _ else if t = 2 then _ else _) = _; rw [if_neg (by rw [et]; simp), if_neg (by rw [et]; simp), if_pos et]
            rw [this]; assumption
          | tup _ =>
            have : T = Value.type "tuple" := by show (if t = 0 then _ else if t = 1 then _ else if t = 2 then _ else _) = _; rw [if_neg (by rw [et]; simp), if_neg (by rw [et]; simp), if_neg (by rw [et]; simp)]
            rw [this]; assumption
      · have flat : ∀ n ∈ n0 :: nr, ∀ l, n ≠ .tup l := fun n hn l e => by
          rcases all n hn with q | ⟨_, i, q⟩ | ⟨_, i, q⟩
          · exact h3 q.1
          · rw [e] at q; cases q
          · rw [e] at q; cases q
        refine ⟨oneType', ?_, fun h2 E Q hq => ?_⟩
        · intro E x y a b Q ha hb' hq
          obtain ⟨n, hn, ra, rfl⟩ := ordKind_inv ha
          obtain ⟨m, hm, rb, rfl⟩ := ordKind_inv hb'
          obtain ⟨r, hr⟩ := srtB_lt hb hn hm
          have hq' : Q (blL (tkK n) (tkK m)) s := hq
          rw [lt_tk n m r hr] at hq'
          have dn := srtB_depth hb hn
          rw [keyLt'_oneType]
          exact oneLt_ord ra rb hr (by omega) (fun _ => flat n hn) hq'
        · rcases all n0 List.mem_cons_self with q | ⟨e1, _⟩ | ⟨e1, _⟩
          · exact absurd q.1 h3
          · refine PySem.W.kas_kind (T := .type "int") h2 (fun v hv => ?_) (by decide +kernel) (beq_self_eq_true _) hq
            obtain ⟨n, hn, r⟩ := h.left hv
            rcases all n hn with q | ⟨_, i, rfl⟩ | ⟨e2, _⟩
            · exact absurd q.1 h3
            · exact looks_ord r
            · rw [e1] at e2; cases e2
          · refine PySem.W.kas_kind (T := .type "str") h2 (fun v hv => ?_) (by decide +kernel) (beq_self_eq_true _) hq
            obtain ⟨n, hn, r⟩ := h.left hv
            rcases all n hn with q | ⟨e2, _⟩ | ⟨_, i, rfl⟩
            · exact absurd q.1 h3
            · rw [e1] at e2; cases e2
            · exact looks_ord r
end
end DL
/-! The data layer, part j: sorted, with and without a key that is a def. -/
namespace DL
open PySem PySem.Spec PyProof.Rows L2

section
variable {K : PySem.W.Frag} {W : World}
theorem Ext0.updM {w : Ws} {D : Addr} {o o0 : HO} (h : D ∈ w.ex) (hD : w.H D = some o0) (hm : Mut (some o0)) : Ext0 w (w.upd D o) := by
  refine ⟨⟨[], by simp [Ws.upd]⟩, fun a u e n => ?_, fun a u e n => ⟨?_, n.nl, n.nx⟩⟩
  · have : a ≠ D := by
      rintro rfl
      rw [hD] at e; cases e
      exact n hm
    show L2.upd w.H D o a = some u
    rw [upd_ne this]; exact e
  · have : a ≠ D := by
      rintro rfl
      exact n.nx h
    show L2.upd w.H D o a = some u
    rw [upd_ne this]; exact e
theorem Ok.updM {w : Ws} (ok : Ok K W w) {D : Addr} {o o0 : HO} (h : D ∈ w.ex) (hD : w.H D = some o0) (hm : Mut (some o0)) : Ok K W (w.upd D o) := by
  have all : ∀ b, (∃ u, w.H b = some u) → ∃ u, L2.upd w.H D o b = some u := fun b hb => by
    by_cases e : b = D
    · subst e; exact ⟨o, upd_same⟩
    · rw [upd_ne e]; exact hb
  refine ⟨ok.len, ok.nd, fun a ha => all a (ok.has a ha), fun a ha => ⟨(ok.exl a ha).1, all a (ok.exl a ha).2⟩, fun i a c h1 h2 => ?_⟩
  refine CellAt.mono0 (Ext0.updM h hD hm) ?_ (ok.cells i a c h1 h2)
  show L2.upd w.H D o a = w.H a
  refine upd_ne ?_
  rintro rfl
  exact (ok.exl a h).1 (List.mem_of_getElem? h1)
theorem Room.in2 {k : Nat} {A : Around} (r : Room (k + 1) A) : Room k A.in1.in1 := ⟨r.hd, by have := r.dp; show A.depth + 3 * k + 5 < _; omega, by have := r.un; show A.units + 1 + 1 + 16 * k + 200 < _; omega⟩
end

/-! ### data -/
/-- the items ds by their keys ns -/
def sortKD (ns : List NestedKey) (ds : List Dt) : List Dt := ((ds.zip ns).mergeSort (PySem.W.sortLe (listOrd itemOrd) false fun p => tkK p.2)).map (·.1)
def mapF (F : FM) : List Dt → Mem → Option (List Dt × Mem)
  | [], M => some ([], M)
  | d :: ds, M => thn1 (F [d] M) fun k M1 => thn1 (mapF F ds M1) fun ks M2 => some (k :: ks, M2)
theorem mapF_length {F : FM} : ∀ {ds : List Dt} {M : Mem} {ks : List Dt} {M' : Mem}, mapF F ds M = some (ks, M') → ks.length = ds.length
  | [], M, ks, M', h => by cases h; rfl
  | d :: ds, M, ks, M', h => by
    obtain ⟨k, M1, h1, h⟩ := thn1_eq h
    obtain ⟨r, M2, h2, h⟩ := thn1_eq h
    cases h
    rw [List.length_cons, List.length_cons, mapF_length h2]
def ordsN (ks : List Dt) : Option (List NestedKey) := match toOrds ks with
  | some ns => if srtB ns = true then some ns else none
  | none => none
theorem ordsN_some {ks : List Dt} {ns : List NestedKey} (h : ordsN ks = some ns) : toOrds ks = some ns ∧ srtB ns = true := by
  unfold ordsN at h
  split at h
  · rename_i m hm
    split at h
    · rename_i hs
      cases h
      exact ⟨hm, hs⟩
    · cases h
  · cases h
theorem toOrds_length : ∀ {ks : List Dt} {ns : List NestedKey}, toOrds ks = some ns → ns.length = ks.length
  | [], ns, h => by simp [toOrds] at h; subst h; rfl
  | d :: ds, ns, h => by
    obtain ⟨k, r, h1, h2, rfl⟩ := toOrds_cons h
    rw [List.length_cons, List.length_cons, toOrds_length h2]
section
variable {K : PySem.W.Frag} {W : World}
theorem eachZ {w : Ws} : ∀ {xs : List V} {ds : List Dt} {us : List Value} {ns : List NestedKey}, Dvs K W w xs ds → Vals xs us → ns.length = ds.length → PySem.W.EachIs (fun v (p : Dt × NestedKey) => ∃ x, RelV x v ∧ Dv K W w x p.1) us (ds.zip ns)
  | _, _, _, [], .nil, .nil, _ => .nil
  | _, _, _, n :: ns, .cons r t, .cons v vs, hl => .cons ⟨_, v, r⟩ (eachZ t vs (by simpa using hl))
theorem eachK {h : Heap} {ns0 : List NestedKey} : ∀ {us : List Value} {ns : List NestedKey} {ds : List Dt}, OrdAll h ns us → (∀ n ∈ ns, n ∈ ns0) → ns.length = ds.length → PySem.W.EachIs (fun v (p : Dt × NestedKey) => (ordKind h ns0).keyOf v = some (tkK p.2)) us (ds.zip ns)
  | _, _, [], .nil, _, _ => .nil
  | _, _, d :: ds, .cons r t, hm, hl => .cons (ordKind_some (hm _ List.mem_cons_self) r) (eachK t (fun n hn => hm n (List.mem_cons_of_mem _ hn)) (by simpa using hl))
theorem eachD {w : Ws} {bs : List (Dt × NestedKey)} {us : List Value} (h : PySem.W.EachIs (fun v (p : Dt × NestedKey) => ∃ x, RelV x v ∧ Dv K W w x p.1) us bs) : ∃ xs, Vals xs us ∧ Dvs K W w xs (bs.map (·.1)) := by
  induction h with
  | nil => exact ⟨[], .nil, .nil⟩
  | cons h1 _ ih =>
    obtain ⟨x, r, d⟩ := h1
    obtain ⟨xs, rs, ds⟩ := ih
    exact ⟨x :: xs, .cons r rs, .cons d ds⟩
theorem sorted_data {w : Ws} {h : Heap} {xs : List V} {ds : List Dt} {us kv : List Value} {ns : List NestedKey} (r : Dvs K W w xs ds) (rv : Vals xs us) (o : OrdAll h ns kv) (hl : ns.length = ds.length) : ∃ ys, Vals ys (PySem.W.sortVals (ordKind h ns) false kv us) ∧ Dvs K W w ys (sortKD ns ds) :=
  eachD (PySem.W.sortVals_each (κ := ordKind h ns) (rev := false) (ks := kv) (fun p : Dt × NestedKey => tkK p.2) (eachZ r rv hl) (eachK o (fun _ h => h) hl))
end

/-! ### sorted, over the heap -/
section
variable {prog : Program} {w : World} {A : Around} {E : Value → Shared → Prop} {s : Shared}
theorem sorted_any {v : Value} {kw : List (Str × Value)} {Q : Value → Shared → Prop} (ha1 : argsOk "sorted" ⟨[v], kw⟩) (ha2 : ∀ x, argsOk "list.sort" ⟨[.ref x], kw⟩)
    (hC : wpAny (model prog w) A.in1 (collect v) (fun vs s1 => vs.length ≤ sizeLine ∧ ∀ E', wpAny (model prog w) A.in1.in1 (Builtin.«list.sort» ⟨[.ref s1.heap.objs.size], kw⟩) (fun f s' => f = .done (.ret .none) ∧ Q (.ref s1.heap.objs.size) s') E' { s1 with heap := s1.heap.push (seqObj "list" vs.toArray 0) }) E s) :
    wpAny (model prog w) A (call (.builtin "sorted") [v] kw) Q E s := by
  refine call_function_entry_kw kind_sorted plain_sorted entry_sorted ha1 ?_
  unfold Builtin.«sorted»
  refine wpAny_bind (m := checkCount "sorted" 1 1 _) (wpAny_pure ?_)
  refine wpAny_bind (wpAny_mono hC (fun vs s1 hq => ?_) fun _ _ e => e)
  obtain ⟨hz, hb⟩ := hq
  refine wpAny_bind (wpAny_newList ?_ hz)
  refine wpAny_bind (wpAny_holding (wpAny_call_entry_kw slot_list_sort ⟨_, Heap.get?_push_size _ rfl, rfl⟩ entry_list_sort ?body (ha2 _)))
  case body =>
    show wpAny (model prog w) A.in1.in1 (Builtin.«list.sort» ⟨[.ref s1.heap.objs.size], kw⟩) _ _ _
    refine wpAny_mono (hb _) (fun f s' hf => ?_) fun _ _ e => e
    obtain ⟨rfl, hq⟩ := hf
    exact ⟨_, rfl, wpAny_pure ⟨_, rfl, hq⟩⟩
theorem ksk_end_at {κ : PyProof.Rows.KeyKind} {a kS : Addr} {b : Bool} {vs : List Value} {keys : Array Value} {e e1 : Nat} {P : PySem.Fin → Shared → Prop} (nk : s.heap.get? kS = some (seqObj "list" keys e)) (na : s.heap.get? a = some (seqObj "list" #[] e1)) (hka : kS ≠ a)
    (S : PySem.W.SortsAt prog w A s κ keys.toList) (hsz : keys.size = vs.length) (hZ : vs.length ≤ sizeLine)
    (h : ∀ tk, P (.done (.ret .none)) { s with heap := (s.heap.update kS (Obj.mapSeq fun _ => (#[] : Array Value))).update a (Obj.mapSeq fun _ => (PySem.W.sortVals κ b keys.toList vs).toArray), toks := tk }) :
    wpAny (model prog w) A (ksk_end a b vs.toArray e1 (.ref kS) keys) P E s := by
  obtain ⟨kd, h1, h2⟩ := S.kind
  have hkl : keys.toList.length = vs.length := by
    rw [Array.length_toList]
    exact hsz
  have hK : PyProof.Rows.KeysOf κ (keys.zip vs.toArray) := PySem.W.keysOf_zip S.keys
  have hol : (PySem.W.sortVals κ b keys.toList vs).length = vs.length := PySem.W.sortVals_length b hkl
  have hstart : (if b = true then (keys.zip vs.toArray).reverse else keys.zip vs.toArray).Perm (keys.zip vs.toArray) := by
    cases b with
    | false => exact Array.Perm.refl _
    | true => exact Array.perm_iff_toList_perm.mpr (by rw [if_pos rfl, Array.toList_reverse]; exact List.reverse_perm _)
  have hss : (if b = true then (keys.zip vs.toArray).reverse else keys.zip vs.toArray).size = vs.length := by rw [hstart.size_eq, Array.size_zip, hsz, List.size_toArray, Nat.min_self]
  have fin : ∀ st' : SortSt, (arrOf st').Perm (if b = true then (keys.zip vs.toArray).reverse else keys.zip vs.toArray) → SortedToK κ (arrOf st') (if b = true then (keys.zip vs.toArray).reverse else keys.zip vs.toArray).size →
      Stable κ (arrOf st') (if b = true then (keys.zip vs.toArray).reverse else keys.zip vs.toArray) → (if b = true then ((arrOf st').map (·.2)).reverse else (arrOf st').map (·.2)) = (PySem.W.sortVals κ b keys.toList vs).toArray := by
    intro st' hp hs ht
    have e := PySem.W.sort_out (rev := b) (keys := keys) (items := vs.toArray) (xs := arrOf st') (κ := κ) hK hp hs ht
    have e' := congrArg List.toArray e
    rw [Array.toArray_toList] at e'
    exact e'
  have tail : ∀ st' : SortSt, failedOf st' = none → (if b = true then ((arrOf st').map (·.2)).reverse else (arrOf st').map (·.2)) = (PySem.W.sortVals κ b keys.toList vs).toArray → wpAny (model prog w) A (ksk_tail a b e1 (.ref kS) st') P E s := by
    intro st' hfl ho
    have s1 := Heap.SameBut.update s.heap kS (Obj.mapSeq fun _ => (#[] : Array Value))
    have na1 : (s.heap.update kS (Obj.mapSeq fun _ => (#[] : Array Value))).get? a = some (seqObj "list" #[] e1) := (s1.2 a hka.symm).trans na
    have hz2 : (PySem.W.sortVals κ b keys.toList vs).toArray.size ≤ sizeLine + 1 := by
      rw [List.size_toArray, hol]
      exact Nat.le_succ_of_le hZ
    unfold ksk_tail
    try dsimp only
    rw [ho]
    refine wpAny_bind (listUpdate_at nk rfl ?_ (by rw [hsz]; exact hZ) (Nat.zero_le _))
    refine wpAny_bind (wpAny_letGo ?_)
    refine wpAny_bind (seqEpoch_at na1 rfl ?_)
    refine wpAny_bind (listUpdate_at na1 rfl ?_ (Nat.zero_le _) hz2)
    rw [hfl]
    simp only [bne_self_eq_false, Bool.false_eq_true, if_false]
    exact wpAny_pure (h _)
  have step : ∀ t : Sem PySem.Fin, wpAny (model prog w) A t P E s → wpAny (model prog w) A (if b = true then (do let _ ← rule "list.sort.reverse"; t) else t) P E s := by
    intro t ht
    split
    · exact wpAny_bind (wpAny_rule ht)
    · exact ht
  unfold ksk_end
  try dsimp only
  refine step _ ?_
  by_cases hl2 : vs.toArray.size < 2
  · rw [if_pos hl2, if_pos hl2]
    refine wpAny_bind (wpAny_pure ?_)
    rw [StateT.run_pure]
    refine wpAny_bind (wpAny_pure ?_)
    try dsimp only
    refine tail (SortSt.mk' general' (if b = true then (keys.zip vs.toArray).reverse else keys.zip vs.toArray) #[] 7 none) rfl (fin _ (Array.Perm.refl _) ?_ (Stable.refl _))
    intro i j hij hj
    rw [hss] at hj
    rw [List.size_toArray] at hl2
    have : i = j := by omega
    subst this
    exact KeyOrd.kle_refl _
  · rw [if_neg hl2, if_neg hl2]
    rw [List.size_toArray] at hl2
    refine wpAny_bind (h2 (by omega) _ ?_)
    refine wpAny_bind (wpAny_mono (H.wpS_sortRunsSt (κ := κ) (kd := kd) (a₀ := if b = true then (keys.zip vs.toArray).reverse else keys.zip vs.toArray)
      (st := SortSt.mk' kd (if b = true then (keys.zip vs.toArray).reverse else keys.zip vs.toArray) #[] 7 none)
      (Q := fun _ st' => failedOf st' = none ∧ (if b = true then ((arrOf st').map (·.2)).reverse else (arrOf st').map (·.2)) = (PySem.W.sortVals κ b keys.toList vs).toArray)
      h1 (hK.perm hstart) ⟨Array.Perm.refl _, rfl, rfl⟩ rfl (Stable.refl _) (by rw [hss]; omega) fun st' a1 a2 a3 a4 => ⟨a2, fin st' a1 a3 a4⟩) ?_ fun _ _ e => e)
    rintro ⟨⟨⟩, st'⟩ s' ⟨rfl, hf, ho⟩
    try dsimp only at ho ⊢
    exact tail st' hf ho
end

section
variable {X : Cx} {pins : List (Addr × Obj)} {σ : L2.St}
theorem raw_at {s : Shared} {H : Hp} {a : Addr} {o : Obj} (I : Inv X pins σ H s) (h : H a = some (RawIs a o)) : s.heap.get? a = some o := (I.hok a _ h).1
theorem new_raw {P : Program} {W : World} {H : Hp} {h : Heap} {a : Addr} {o : Obj} (e : h.get? a = some o) : ObjOk P W H h a (RawIs a o) := ⟨e, ⟨o, e⟩, fun _ _ p q => q _ p⟩
theorem key_loop {A : Around} {F : FM} {f kS p : Addr} {oE : Obj} {w0 : Ws} {body : Value → PUnit → Sem (ForInStep PUnit)} {Q : PUnit → Shared → Prop} {E : Value → Shared → Prop} (ok0 : Ok X.K X.w w0) (h0 : w0.H kS = none) (hpk : p ≠ kS)
    (turn : ∀ (w : Ws) (s : Shared) (x : V) (u : Value) (d k : Dt) (M' : Mem), Inv X pins σ w.H s → Ok X.K X.w w → Dv X.K X.w w x d → RelV x u → F [d] w.M = some (k, M') →
      wpAny (model X.prog X.w) A (call (.ref f) [u]) (fun v s' => ∃ w' y, w'.M = M' ∧ Inv X pins σ w'.H s' ∧ Ok X.K X.w w' ∧ Ext w w' ∧ RelV y v ∧ Dv X.K X.w w' y k) (fun _ _ => False) s)
    (hb : ∀ (x : Value) (s : Shared) (R : ForInStep PUnit → Shared → Prop), wpAny (model X.prog X.w) A (call (.ref f) [x]) (fun v s' => ∃ kA e, s'.heap.get? kS = some (seqObj "list" kA e) ∧ kA.size ≤ sizeLine ∧
      R (.yield ⟨⟩) { s' with heap := s'.heap.update kS (Obj.mapSeq (·.push v)) }) (fun _ _ => False) s → wpAny (model X.prog X.w) A (body x ⟨⟩) R E s) :
    ∀ (ds : List Dt) (xs : List V) (us : List Value) (w : Ws) (s : Shared) (kA : Array Value) (e : Nat) (kvs : List V) (kds ks : List Dt) (M' : Mem), Inv X pins σ w.H s → Ok X.K X.w w → Ext w0 w → kS ∈ w.ex → w.H kS = some (RawIs kS (seqObj "list" kA e)) →
      p ∈ w.ex → w.H p = some (RawIs p oE) → Dvs X.K X.w w xs ds → Vals xs us → Dvs X.K X.w w kvs kds → Vals kvs kA.toList → mapF F ds w.M = some (ks, M') → kA.size + ds.length ≤ sizeLine →
      (∀ (w' : Ws) (s' : Shared) (kA' : Array Value) (e' : Nat) (kvs' : List V), Inv X pins σ w'.H s' → w'.M = M' → Ok X.K X.w w' → Ext w0 w' → kS ∈ w'.ex → w'.H kS = some (RawIs kS (seqObj "list" kA' e')) → p ∈ w'.ex → w'.H p = some (RawIs p oE) → Ext0 w w' →
        Dvs X.K X.w w' kvs' (kds ++ ks) → Vals kvs' kA'.toList → Q ⟨⟩ s') →
      wpAny (model X.prog X.w) A (forIn us PUnit.unit body) Q E s
  | [], xs, us, w, s, kA, e, kvs, kds, ks, M', I, ok, x0, hk1, hk2, hp1, hp2, r, rv, rk, rkv, hm, hz, fin => by
    cases r
    cases rv
    cases hm
    rw [List.forIn_nil]
    exact wpAny_pure (fin w s kA e kvs I rfl ok x0 hk1 hk2 hp1 hp2 (Ext.refl w).toExt0 (by rw [List.append_nil]; exact rk) rkv)
  | d :: ds, xs, us, w, s, kA, e, kvs, kds, ks, M', I, ok, x0, hk1, hk2, hp1, hp2, r, rv, rk, rkv, hm, hz, fin => by
    obtain ⟨k, M1, h1, hm⟩ := thn1_eq hm
    obtain ⟨kr, M2, h2, hm⟩ := thn1_eq hm
    cases hm
    cases r with
    | @cons x xs _ _ r1 r2 =>
      cases rv with
      | @cons _ u _ us v1 v2 =>
        rw [List.forIn_cons]
        refine wpAny_bind (hb u s _ (wpAny_mono (turn w s x u d k M1 I ok r1 v1 h1) (fun v s' hq => ?_) fun _ _ z => z))
        obtain ⟨w1, y, hM1, I1, ok1, x1, ry, dy⟩ := hq
        have hk1' : kS ∈ w1.ex := x1.exm _ hk1
        have hk2' : w1.H kS = some (RawIs kS (seqObj "list" kA e)) := (x1.hid _ hk1).trans hk2
        have hp2' : w1.H p = some (RawIs p oE) := (x1.hid _ hp1).trans hp2
        have hg := raw_at I1 hk2'
        have hz1 : kA.size ≤ sizeLine := by rw [List.length_cons] at hz; omega
        refine ⟨kA, e, hg, hz1, ?_⟩
        have sb := Heap.SameBut.update s'.heap kS (Obj.mapSeq (·.push v))
        obtain ⟨c2, hc2⟩ : ∃ c2, (s'.heap.update kS (Obj.mapSeq (·.push v))).get? kS = some (seqObj "list" (kA.push v) c2) := ⟨_, get?_update_seq hg (·.push v)⟩
        have I2 := Inv.rawUpd (t := s'.toks) I1 hk2' sb hc2
        have e0 : Ext0 w1 (w1.upd kS (RawIs kS (seqObj "list" (kA.push v) c2))) := Ext0.updM hk1' hk2' True.intro
        have ok2 : Ok X.K X.w (w1.upd kS (RawIs kS (seqObj "list" (kA.push v) c2))) := ok1.updM hk1' hk2' True.intro
        have x2 := Ext.upd ok0 (x0.trans x1) (o := RawIs kS (seqObj "list" (kA.push v) c2)) h0
        have ea : (kA.push v).toList = kA.toList ++ [v] := by simp
        show wpAny (model X.prog X.w) A (forIn us PUnit.unit body) Q E _
        refine key_loop (oE := oE) ok0 h0 hpk turn hb ds xs us (w1.upd kS (RawIs kS (seqObj "list" (kA.push v) c2))) _ (kA.push v) c2 (kvs ++ [y]) (kds ++ [k]) kr M' I2 ok2 x2 hk1' upd_same (x1.exm _ hp1) ?_ (Dvs.mono0 e0 _ _ (r2.mono x1)) v2 ?_ ?_ ?_ ?_ ?_
        · show L2.upd w1.H kS _ p = _
          rw [upd_ne hpk]
          exact hp2'
        · exact Dvs.append (Dvs.mono0 e0 _ _ (rk.mono x1)) (Dvs.one (Dv.mono0 e0 _ _ dy))
        · rw [ea]
          exact rkv.append (.cons ry .nil)
        · show mapF F ds w1.M = _
          rw [hM1]
          exact h2
        · rw [Array.size_push]
          rw [List.length_cons] at hz
          omega
        · intro w' s3 kA' e' kvs' J hM J2 J3 J4 J5 J6 J7 J8 J9 J10
          refine fin w' s3 kA' e' kvs' J hM J2 J3 J4 J5 J6 J7 ?_ ?_ J10
          · have a := x1.toExt0
            refine ⟨?_, fun b o h n => J8.imm b o (e0.imm b o (a.imm b o h n) n) n, fun b o h n => ?_⟩
            · obtain ⟨t1, q1⟩ := a.pre
              obtain ⟨t2, q2⟩ := e0.pre
              obtain ⟨t3, q3⟩ := J8.pre
              exact ⟨t1 ++ t2 ++ t3, by rw [q3, q2, q1]; simp [List.append_assoc]⟩
            · obtain ⟨b1, n1⟩ := a.frz b o h n
              obtain ⟨b2, n2⟩ := e0.frz b o b1 n1
              exact J8.frz b o b2 n2
          · rw [List.append_assoc] at J9
            exact J9
end
section
variable {X : Cx} {K : PySem.W.Frag} {W : World}
/-- the end of sorted: a new list -/
def rSortK (K : PySem.W.Frag) (W : World) (f : Addr) (F : FM) : List V → List V → Hp → VK → Prop := fun vs zs H Q => ∃ w x d ds ks ns M', vs = [x] ∧ zs = [V.ref f] ∧ w.H = H ∧ Ok K W w ∧ Dv K W w x d ∧ seqAt w.M d = some ds ∧ mapF F ds w.M = some (ks, M') ∧ ordsN ks = some ns ∧ Fin1 K W w (.lst (sortKD ns ds)) M' Q
theorem Ext0.comp {a b c : Ws} (x : Ext0 a b) (y : Ext0 b c) : Ext0 a c := by
  refine ⟨?_, fun e o h n => y.imm e o (x.imm e o h n) n, fun e o h n => ?_⟩
  · obtain ⟨t1, q1⟩ := x.pre
    obtain ⟨t2, q2⟩ := y.pre
    exact ⟨t1 ++ t2, by rw [q2, q1, List.append_assoc]⟩
  · obtain ⟨h1, n1⟩ := x.frz e o h n
    exact y.frz e o h1 n1
theorem cr_sortK {k : Nat} {f : Addr} {fd : FuncData} {ps : List Str} {F : FM} (G : FnOk X.prog X.w X.K X.mg X.base CX0 k f fd ps (spF X.K X.w 1 F)) (hr : Room (k + 1) X.A) (hb : Binds X.K fd ps []) : CallRK X (.builtin "sorted") [Str.ofString "key"] (rSortK X.K X.w f F) := by
  intro pins s σ H xs zs us ws Q I r rz h
  obtain ⟨w, x, d, ds, ks, ns, M', rfl, rfl, rfl, ok, dx, hs, hm, hn, fq⟩ := h
  obtain ⟨u, rfl, ru⟩ := vals1 r
  obtain ⟨fv, rfl, rf⟩ := vals1 rz
  obtain rfl : fv = Value.ref f := rf
  have hr2 : Room k X.A.in1.in1 := Room.in2 hr
  obtain ⟨a, xs, rfl, hq, rs⟩ := seqAt_ok ok dx hs
  obtain rfl : u = Value.ref a := ru
  -- the items
  obtain ⟨T, o, its, n, hT, ho, hc, hd, rv, hz⟩ : ∃ (T : String) (o : Obj) (its : Array Value) (n : Nat), (T = "list" ∨ T = "tuple") ∧ s.heap.get? a = some o ∧ o.cls = .type T ∧ o.data = .seq its n ∧ Vals xs its.toList ∧ xs.length ≤ sizeLine := by
    rcases hq with hq | hq
    · obtain ⟨its, rv, pl, hz⟩ := I.list hq
      obtain ⟨o, ho, hc, n, hd⟩ := pl.isList
      exact ⟨"list", o, its.toArray, n, .inl rfl, ho, hc, hd, by simpa using rv, hz⟩
    · obtain ⟨its, rv, ⟨o, ho, hc, n, hd⟩, hz⟩ := I.tuple hq
      exact ⟨"tuple", o, its.toArray, n, .inr rfl, ho, hc, hd, by simpa using rv, hz⟩
  have hln : its.toList.length ≤ sizeLine := by rw [← rv.length]; exact hz
  refine sorted_any (ksk_s1 _ _) (fun _ => ksk_l1 _ _) ?_
  refine wpAny_collect_seq a hT ho hc hd (fun h' hk => ⟨hln, fun E' => ?_⟩) (by rw [← Array.length_toList]; exact hln)
  show wpAny (model X.prog X.w) X.A.in1.in1 (Builtin.«list.sort» ⟨[.ref h'.objs.size], [(Str.ofString "key", .ref f)]⟩) _ E' { s with heap := h'.push (seqObj "list" its.toList.toArray 0) }
  have I1 : Inv X pins σ w.H { s with heap := h' } := I.kept (t' := s.toks) hk
  have hp0 : w.H h'.objs.size = none := I1.hok.fresh (Nat.le_refl _)
  have hgp : (h'.push (seqObj "list" its.toList.toArray 0)).get? h'.objs.size = some (seqObj "list" its.toList.toArray 0) := Heap.get?_push_size _ rfl
  have I2 := I1.laid (a := h'.objs.size) (o := RawIs h'.objs.size (seqObj "list" its.toList.toArray 0)) (h' := h'.push (seqObj "list" its.toList.toArray 0)) (t' := s.toks) (fun _ _ q => Heap.get?_push_of_some _ q) (Nat.le_refl _) (new_raw hgp)
  have okh := ok.hide (o := RawIs h'.objs.size (seqObj "list" its.toList.toArray 0)) hp0
  have xh := Ext.hide ok (o := RawIs h'.objs.size (seqObj "list" its.toList.toArray 0)) hp0
  generalize hpe : h'.objs.size = p at *
  rw [ksk_t1]
  unfold ksk_tree
  refine wpAny_bind (listItems_at hgp rfl ?_)
  refine wpAny_bind (listUpdate_at hgp rfl ?_ (by rw [List.size_toArray]; exact hln) (Nat.zero_le _))
  obtain ⟨e1, ho1⟩ : ∃ e1, ((h'.push (seqObj "list" its.toList.toArray 0)).update p (Obj.mapSeq fun _ => (#[] : Array Value))).get? p = some (seqObj "list" #[] e1) := ⟨_, get?_update_seq hgp fun _ => #[]⟩
  have I3 := Inv.rawUpd (t := s.toks) I2 upd_same (Heap.SameBut.update _ p (Obj.mapSeq fun _ => (#[] : Array Value))) ho1
  have ok3 : Ok X.K X.w ((w.hide p (RawIs p (seqObj "list" its.toList.toArray 0))).upd p (RawIs p (seqObj "list" #[] e1))) := okh.updM List.mem_cons_self upd_same True.intro
  have x3 := Ext.upd ok xh (o := RawIs p (seqObj "list" #[] e1)) hp0
  have x30 : Ext0 (w.hide p (RawIs p (seqObj "list" its.toList.toArray 0))) ((w.hide p (RawIs p (seqObj "list" its.toList.toArray 0))).upd p (RawIs p (seqObj "list" #[] e1))) := Ext0.updM List.mem_cons_self upd_same True.intro
  refine wpAny_bind (seqEpoch_at ho1 rfl ?_)
  refine wpAny_bind (wpAny_newTuple ?_ (by show its.toList.length ≤ _; exact hln))
  refine wpAny_bind (wpAny_newList ?_ (Nat.zero_le _))
  refine wpAny_holding ?_
  generalize hh2 : (h'.push (seqObj "list" its.toList.toArray 0)).update p (Obj.mapSeq fun _ => (#[] : Array Value)) = h2 at *
  have I4 := I3.kept (h' := h2.push (seqObj "tuple" its.toList.toArray 0)) (t' := s.toks) (fun _ _ q => Heap.get?_push_of_some _ q)
  generalize hh3 : h2.push (seqObj "tuple" its.toList.toArray 0) = h3 at *
  have hk0 : ((w.hide p (RawIs p (seqObj "list" its.toList.toArray 0))).upd p (RawIs p (seqObj "list" #[] e1))).H h3.objs.size = none := I4.hok.fresh (Nat.le_refl _)
  have hgk : (h3.push (seqObj "list" #[] 0)).get? h3.objs.size = some (seqObj "list" #[] 0) := Heap.get?_push_size _ rfl
  have I5 := I4.laid (a := h3.objs.size) (o := RawIs h3.objs.size (seqObj "list" #[] 0)) (h' := h3.push (seqObj "list" #[] 0)) (t' := s.toks) (fun _ _ q => Heap.get?_push_of_some _ q) (Nat.le_refl _) (new_raw hgk)
  have ok5 := ok3.hide (o := RawIs h3.objs.size (seqObj "list" #[] 0)) hk0
  have x5 := x3.trans (Ext.hide ok3 (o := RawIs h3.objs.size (seqObj "list" #[] 0)) hk0)
  have hkp : p ≠ h3.objs.size := fun e => by
    rw [← e] at hk0
    have : L2.upd (w.hide p (RawIs p (seqObj "list" its.toList.toArray 0))).H p (RawIs p (seqObj "list" #[] e1)) p = none := hk0
    rw [upd_same] at this
    cases this
  have hkw : w.H h3.objs.size = none := by
    cases e : w.H h3.objs.size with
    | none => rfl
    | some v =>
      have : L2.upd (w.hide p (RawIs p (seqObj "list" its.toList.toArray 0))).H p (RawIs p (seqObj "list" #[] e1)) h3.objs.size = none := hk0
      rw [upd_ne hkp.symm] at this
      have : L2.upd w.H p (RawIs p (seqObj "list" its.toList.toArray 0)) h3.objs.size = none := this
      rw [upd_ne hkp.symm, e] at this
      cases this
  show wpAny (model X.prog X.w) X.A.in1.in1 (ksk_rest p (.ref f) false its.toList.toArray e1 (.ref h3.objs.size)) _ E' { s with heap := h3.push (seqObj "list" #[] 0) }
  generalize hkS : h3.objs.size = kS at *
  unfold ksk_rest
  refine wpAny_bind (wpAny_rule ?_)
  first
    | rw [List.forIn_toArray]
    | (rw [← Array.forIn_toList]; simp only [List.toList_toArray])
    | rw [← Array.forIn_toList]
  obtain ⟨hn1, hn2⟩ := ordsN_some hn
  have hlk : ks.length = ds.length := mapF_length hm
  have hln2 : ns.length = ds.length := (toOrds_length hn1).trans hlk
  refine wpAny_bind (key_loop (F := F) (f := f) (kS := kS) (p := p) (oE := seqObj "list" #[] e1) (pins := pins) (σ := σ) ok hkw hkp ?turn ?hb ds xs its.toList (((w.hide p (RawIs p (seqObj "list" its.toList.toArray 0))).upd p (RawIs p (seqObj "list" #[] e1))).hide kS (RawIs kS (seqObj "list" #[] 0))) _ #[] 0 [] [] ks M' I5 ok5 x5 List.mem_cons_self upd_same (List.mem_cons_of_mem _ List.mem_cons_self) ?_ ?_ rv .nil .nil hm ?_ ?_)
  case turn =>
    intro w1 s1 x1 u1 d1 k1 M1 J ok1 r1 v1 h1
    have h2 := G.run X.A.in1.in1 X.stack s1 w1.H ⟨[u1], []⟩ [u1] [x1] (fun v H => ∃ w2, w2.H = H ∧ w2.M = M1 ∧ Ok X.K X.w w2 ∧ Ext w1 w2 ∧ Dv X.K X.w w2 v k1) (fun _ _ _ => False) hr2 J.env0.in1.in1 (by
      have := hb s1 [u1] J.kIn (by
        have := G.len [x1] w1.H (fun _ _ => True) (fun _ _ _ => False) ⟨w1, [d1], k1, M1, rfl, ok1, .cons r1 .nil, rfl, h1, fun _ _ _ _ _ _ => True.intro⟩
        simpa using this)
      rw [List.append_nil] at this
      exact this) (.cons v1 .nil) ⟨w1, [d1], k1, M1, rfl, ok1, .cons r1 .nil, rfl, h1, fun w2 v hM ok2 x2 r2 => ⟨w2, rfl, hM, ok2, x2, r2⟩⟩
    refine wpAny_call (codeAny_mono h2 fun r s' hq => ?_)
    cases r with
    | error e => exact hq
    | ok fl =>
      cases fl with
      | ret u2 =>
        obtain ⟨v, H', J2, rv2, w2, e2, hM, ok2, x2, r2⟩ := J.after hq
        subst e2
        exact ⟨w2, v, hM, J2, ok2, x2, rv2, r2⟩
      | next => exact False.elim hq
      | brk => exact False.elim hq
      | cont => exact False.elim hq
  case hb =>
    intro x1 s1 R hw
    refine wpAny_bind (wpAny_attempt (wpAny_mono hw (fun v s' hq => ?_) fun _ _ z => z.elim))
    obtain ⟨kA, e, hg, hz1, hR⟩ := hq
    try dsimp only
    refine wpAny_bind (listUpdate_at hg rfl ?_ hz1 (Nat.le_trans (Nat.le_of_eq (Array.size_push ..)) (Nat.succ_le_succ hz1)))
    exact wpAny_pure hR
  · show L2.upd _ kS _ p = _
    rw [upd_ne hkp]
    exact upd_same
  · exact Dvs.mono (Ext.hide ok3 hk0) (Dvs.mono0 x30 _ _ (rs.mono xh))
  · rw [← rs.length]
    show (0 : Nat) + _ ≤ _
    omega
  · intro w' s' kA' e' kvs' J hM okJ xJ hk1 hk2 hp1 hp2 xx rk rkv
    rw [List.nil_append] at rk
    have gk := raw_at J hk2
    have gp := raw_at J hp2
    have od := Dvs.ord J ks kvs' ns kA'.toList rk hn1 rkv
    have hsz : kA'.size = its.toList.length := by
      have h1 : kvs'.length = kA'.size := by rw [← Array.length_toList]; exact rkv.length
      have h2 := rk.length
      have h3 := rs.length
      have h4 := rv.length
      omega
    refine wpAny_bind (listItems_at gk rfl ?_)
    have hu := hr2.un
    refine ksk_end_at (κ := ordKind s'.heap ns) gk gp hkp.symm (sortsAt_ord od hn2 (by omega)) hsz hln fun tk => ⟨rfl, ?_⟩
    have rs' : Dvs X.K X.w w' xs ds := Dvs.mono0 xx _ _ (Dvs.mono (Ext.hide ok3 hk0) (Dvs.mono0 x30 _ _ (rs.mono xh)))
    obtain ⟨ys, v3, d3⟩ := sorted_data rs' rv od hln2
    have sb1 := Heap.SameBut.update s'.heap kS (Obj.mapSeq fun _ => (#[] : Array Value))
    obtain ⟨c1, hc1⟩ : ∃ c1, (s'.heap.update kS (Obj.mapSeq fun _ => (#[] : Array Value))).get? kS = some (seqObj "list" #[] c1) := ⟨_, get?_update_seq gk fun _ => #[]⟩
    have J1 := Inv.rawUpd (t := s'.toks) J hk2 sb1 hc1
    have gp1 : (s'.heap.update kS (Obj.mapSeq fun _ => (#[] : Array Value))).get? p = some (seqObj "list" #[] e1) := (sb1.2 p hkp).trans gp
    have sb2 := Heap.SameBut.update (s'.heap.update kS (Obj.mapSeq fun _ => (#[] : Array Value))) p (Obj.mapSeq fun _ => (PySem.W.sortVals (ordKind s'.heap ns) false kA'.toList its.toList).toArray)
    obtain ⟨c2, hc2⟩ : ∃ c2, ((s'.heap.update kS (Obj.mapSeq fun _ => (#[] : Array Value))).update p (Obj.mapSeq fun _ => (PySem.W.sortVals (ordKind s'.heap ns) false kA'.toList its.toList).toArray)).get? p = some (seqObj "list" (PySem.W.sortVals (ordKind s'.heap ns) false kA'.toList its.toList).toArray c2) := ⟨_, get?_update_seq gp1 _⟩
    have hp2' : L2.upd w'.H kS (RawIs kS (seqObj "list" #[] c1)) p = some (RawIs p (seqObj "list" #[] e1)) := by rw [upd_ne hkp]; exact hp2
    have hzs : ys.length ≤ sizeLine := by
      have := v3.length
      rw [PySem.W.sortVals_length false (by rw [Array.length_toList]; exact hsz)] at this
      omega
    have J2 :=
      d_write (t' := tk) (ob := .lst ys) J1 (by rw [hp2']; exact True.intro) sb2 ⟨_, hc2⟩ ⟨hzs, _, c2, v3, hc2⟩
    have okA : Ok X.K X.w (w'.upd kS (RawIs kS (seqObj "list" #[] c1))) := okJ.updM hk1 hk2 True.intro
    have xA : Ext0 w' (w'.upd kS (RawIs kS (seqObj "list" #[] c1))) := Ext0.updM hk1 hk2 True.intro
    have okB : Ok X.K X.w ((w'.upd kS (RawIs kS (seqObj "list" #[] c1))).upd p (.lst ys)) := okA.updM hp1 hp2' True.intro
    have xB : Ext0 (w'.upd kS (RawIs kS (seqObj "list" #[] c1))) ((w'.upd kS (RawIs kS (seqObj "list" #[] c1))).upd p (.lst ys)) := Ext0.updM hp1 hp2' True.intro
    have hsub : ∀ a ∈ w.ex, a ∈ ((w'.upd kS (RawIs kS (seqObj "list" #[] c1))).upd p (.lst ys)).ex := fun a ha => xJ.exm a ha
    have okC := okB.unh hsub
    have xC : Ext0 ((w'.upd kS (RawIs kS (seqObj "list" #[] c1))).upd p (.lst ys)) (((w'.upd kS (RawIs kS (seqObj "list" #[] c1))).upd p (.lst ys)).unh w.ex) := Ext0.unh hsub
    have xAll : Ext w (((w'.upd kS (RawIs kS (seqObj "list" #[] c1))).upd p (.lst ys)).unh w.ex) := Ext.unh (Ext.upd ok (Ext.upd ok xJ hkw) hp0)
    refine ⟨.ref p, _, J2, rfl, fq (((w'.upd kS (RawIs kS (seqObj "list" #[] c1))).upd p (.lst ys)).unh w.ex) (.ref p) hM okC xAll (.lst (xs := ys) upd_same ⟨?_, ok.exf hp0⟩ (Dvs.mono0 xC _ _ (Dvs.mono0 xB _ _ (Dvs.mono0 xA _ _ d3))))⟩
    rintro ⟨i, c, h1, _⟩
    exact (okJ.exl p hp1).1 (List.mem_of_getElem? h1)
end
section
variable {X : Cx}
def sortE (F : FM) (m : EM) : EM := fun e M => thn1 (m e M) fun d M1 => match seqAt M1 d with
  | some ds => thn1 (mapF F ds M1) fun ks M2 => match ordsN ks with
    | some ns => some (.lst (sortKD ns ds), M2)
    | none => none
  | none => none
theorem re_sort {k : Nat} {f : Addr} {fd : FuncData} {ps : List Str} {F : FM} {e : Expr} {x : Str} {p p' kpos pos : Pos} {m : EM} (G : FnOk X.prog X.w X.K X.mg X.base CX0 k f fd ps (spF X.K X.w 1 F)) (hr : Room (k + 1) X.A) (hg : Gl X "sorted") (hm : X.mg "sorted" = none)
    (hgf : Gl X x) (hmf : X.mg x = some (.ref f)) (hk : PySem.W.keepIn X.K (.ref f) = true) (hb : Binds X.K fd ps []) (he : RE X e m) (hd : (x == ("__debug__" : Str)) = false := by decide)
    (hs : starEach [e] X.env = (false, eval e X.env) :: starEach [] X.env := by rfl) : RE X (.Call (.Name "sorted" p) [e] [⟨some "key", .Name x p', kpos⟩] pos) (sortE F m) := by
  refine pe_weak (pe_callBK (ks := [Str.ofString "key"]) (cr_sortK G hr hb) hg hm (by first | rfl | decide +kernel) (pa_cons he pa_nil hs) (pk_cons (pe_glob (v := .ref f) hgf hmf rfl hd) pk_nil) (he := by rw [hs]; rfl) (hpl := by rw [hs]; rfl)) fun σ H Q q => ?_
  obtain ⟨w, sl, d, M', rfl, ok, er, hm, fq⟩ := q
  obtain ⟨d0, M1, h1, hm⟩ := thn1_eq hm
  split at hm
  · rename_i ds hds
    obtain ⟨ks, M2, h2, hm⟩ := thn1_eq hm
    split at hm
    · rename_i ns hns
      cases hm
      refine ⟨w, sl, d0, M1, rfl, ok, er, h1, fun w1 v hM1 ok1 x1 r1 => ?_⟩
      show rSortK X.K X.w f F [v] [V.ref f] w1.H Q
      exact ⟨w1, v, d0, ds, ks, ns, _, rfl, rfl, rfl, ok1, r1, by rw [hM1]; exact hds, by rw [hM1]; exact h2, hns, fq.after x1⟩
    · cases hm
  · cases hm
end
end DL
/-! The draws that all laws make from their script: start, draw, pick, in plain Lean. -/
namespace DL
open PySem PySem.Spec PyProof.Rows L2

noncomputable def m_start : SM :=
    (rtS (dispE [((cE (.str "cells")), (lcE (seqI (varE 0)) (.one 1) yesT (callE (pureF absF) (consA (callE (pureF intF) (consA (varE 1) nilA)) nilA)) [1])), ((cE (.str "at")), (cE (.int 0))), ((cE (.str "left")), (cE (.int 0))), ((cE (.str "mix")), (opE (pure2 addD) (cE (.int 7)) (callE lenF (consA (varE 0) nilA))))]))
noncomputable def F_start : FM := (body 2 m_start)
noncomputable def m_draw : SM :=
    (seqS (ifS (andT (blT (opE eqD (opE ixA (varE 0) (cE (.str "left"))) (cE (.int 0)))) (blT (opE ltD (opE ixA (varE 0) (cE (.str "at"))) (callE lenF (consA (opE ixA (varE 0) (cE (.str "cells"))) nilA))))) (seqS (setS 2 (opE ixA (opE ixA (varE 0) (cE (.str "cells"))) (opE ixA (varE 0) (cE (.str "at")))))
    (seqS (asgS (opE (pure2 addD) (opE ixA (varE 0) (cE (.str "at"))) (cE (.int 1))) (subG (varE 0) (cE (.str "at"))))
    (seqS (asgS (opE (pure2 fmodD) (callE (pureF intF) (consA (opE (pure2 addD) (opE (pure2 addD) (opE (pure2 mulD) (opE ixA (varE 0) (cE (.str "mix"))) (cE (.int 48271))) (varE 2)) (cE (.int 11))) nilA)) (cE (.int 2147483647))) (subG (varE 0) (cE (.str "mix"))))
    (seqS (ifS (blT (opE ltD (varE 2) (opE (pure2 powD) (cE (.int 10)) (cE (.int 18))))) (rtS (opE (pure2 fmodD) (callE (pureF intF) (consA (varE 2) nilA)) (varE 1))) nxS)
    (asgS (varE 2) (subG (varE 0) (cE (.str "left")))))))) nxS)
    (seqS (ifS (blT (opE (pure2 gtI) (opE ixA (varE 0) (cE (.str "left"))) (cE (.int 0)))) (seqS (setS 3 (opE (pure2 fmodD) (callE (pureF intF) (consA (opE ixA (varE 0) (cE (.str "left"))) nilA)) (varE 1)))
    (seqS (asgS (opE (pure2 fdivD) (opE ixA (varE 0) (cE (.str "left"))) (varE 1)) (subG (varE 0) (cE (.str "left"))))
    (rtS (varE 3)))) nxS)
    (seqS (asgS (opE (pure2 fmodD) (callE (pureF intF) (consA (opE (pure2 addD) (opE (pure2 mulD) (opE ixA (varE 0) (cE (.str "mix"))) (cE (.int 48271))) (cE (.int 11))) nilA)) (cE (.int 2147483647))) (subG (varE 0) (cE (.str "mix"))))
    (rtS (opE (pure2 fmodD) (callE (pureF intF) (consA (opE (pure2 fmodD) (callE (pureF intF) (consA (opE (pure2 addD) (opE (pure2 mulD) (opE ixA (varE 0) (cE (.str "mix"))) (cE (.int 69621))) (cE (.int 5))) nilA)) (cE (.int 2147483629))) nilA)) (varE 1))))))
noncomputable def F_draw : FM := cutF (body 4 m_draw)
noncomputable def m_pick : SM :=
    (rtS (opE ixA (varE 1) (callE F_draw (consA (varE 0) (consA (callE lenF (consA (varE 1) nilA)) nilA)))))
noncomputable def F_pick : FM := cutF (body 2 m_pick)

/-! ### the state -/
def kC : Str := "cells"
def kA : Str := "at"
def kL : Str := "left"
def kM : Str := "mix"
def stD (cs : List Int) (p l m : Int) : Dt := .dic [.str "cells", .str "at", .str "left", .str "mix"] [.lst (cs.map .int), .int p, .int l, .int m]
structure StOk (cs : List Int) (p l m : Int) : Prop where
  cs : ∀ c ∈ cs, 0 ≤ c
  p : 0 ≤ p
  l : 0 ≤ l
  m : 0 ≤ m ∧ m < 2147483648
/-- the state of the draws stands in cell i -/
def IsSt (i : Nat) (M : Mem) : Prop := ∃ cs p l m, M[i]? = some (some (stD cs p l m)) ∧ StOk cs p l m
section
variable {i : Nat} {M : Mem} {cs : List Int} {p l m : Int}
theorem nT {a b : Str} (h : a = b) : NestedKey.text a = NestedKey.text b := by rw [h]
theorem st_keys : toKeys [.str "cells", .str "at", .str "left", .str "mix"] = some [NestedKey.text "cells", .text "at", .text "left", .text "mix"] := rfl
theorem ixS_cells : ixD' [.str "cells", .str "at", .str "left", .str "mix"] (.text "cells") = some 0 := by
  unfold ixD'; rw [st_keys]; decide +kernel
theorem ixS_at : ixD' [.str "cells", .str "at", .str "left", .str "mix"] (.text "at") = some 1 := by
  unfold ixD'; rw [st_keys]; decide +kernel
theorem ixS_left : ixD' [.str "cells", .str "at", .str "left", .str "mix"] (.text "left") = some 2 := by
  unfold ixD'; rw [st_keys]; decide +kernel
theorem ixS_mix : ixD' [.str "cells", .str "at", .str "left", .str "mix"] (.text "mix") = some 3 := by
  unfold ixD'; rw [st_keys]; decide +kernel
theorem keyN_str (x : Str) : keyN (.str x) = some (.text x) := rfl
theorem st_dict (h : M[i]? = some (some (stD cs p l m))) : dictAt M (.ref i) = some ([.str "cells", .str "at", .str "left", .str "mix"], [.lst (cs.map .int), .int p, .int l, .int m]) := by
  simp only [dictAt, h, stD]
theorem st_cells (h : M[i]? = some (some (stD cs p l m))) : ixA (.ref i) (.str "cells") M = some (.lst (cs.map .int), M) := by
  unfold ixA; rw [st_dict h]; simp only [keyN_str, Option.bind_some, findD, ixS_cells]; rfl
theorem st_at (h : M[i]? = some (some (stD cs p l m))) : ixA (.ref i) (.str "at") M = some (.int p, M) := by
  unfold ixA; rw [st_dict h]; simp only [keyN_str, Option.bind_some, findD, ixS_at]; rfl
theorem st_left (h : M[i]? = some (some (stD cs p l m))) : ixA (.ref i) (.str "left") M = some (.int l, M) := by
  unfold ixA; rw [st_dict h]; simp only [keyN_str, Option.bind_some, findD, ixS_left]; rfl
theorem st_mix (h : M[i]? = some (some (stD cs p l m))) : ixA (.ref i) (.str "mix") M = some (.int m, M) := by
  unfold ixA; rw [st_dict h]; simp only [keyN_str, Option.bind_some, findD, ixS_mix]; rfl
theorem four_lt : (4 : Nat) < sizeLine := by rw [sizeLine_eq]; decide
theorem st_setAt (h : M[i]? = some (some (stD cs p l m))) (q : Int) : storeD M (.ref i) (.str "at") (.int q) = some (M.set i (some (stD cs q l m))) := by
  simp only [storeD, h, stD]
  rw [if_pos (by exact four_lt)]
  simp only [keyN_str, Option.map_some, putD, ixS_at]
  rfl
theorem st_setLeft (h : M[i]? = some (some (stD cs p l m))) (q : Int) : storeD M (.ref i) (.str "left") (.int q) = some (M.set i (some (stD cs p q m))) := by
  simp only [storeD, h, stD]
  rw [if_pos (by exact four_lt)]
  simp only [keyN_str, Option.map_some, putD, ixS_left]
  rfl
theorem st_setMix (h : M[i]? = some (some (stD cs p l m))) (q : Int) : storeD M (.ref i) (.str "mix") (.int q) = some (M.set i (some (stD cs p l q))) := by
  simp only [storeD, h, stD]
  rw [if_pos (by exact four_lt)]
  simp only [keyN_str, Option.map_some, putD, ixS_mix]
  rfl
theorem set_same (h : M[i]? = some (some (stD cs p l m))) (d : Option Dt) : (M.set i d)[i]? = some d := by
  rw [List.getElem?_set_self (List.getElem?_eq_some_iff.mp h).1]
theorem eqO_int (M : Mem) (a b : Int) : eqO M (.int a) (.int b) = some (decide (a = b)) := by
  simp only [eqO, deref, toPy]
  rw [if_pos ⟨rfl, rfl⟩]
  rfl
theorem ltO_int (a b : Int) : ltO (.int a) (.int b) = some (decide (a < b)) := rfl
theorem cls_ints (n : Nat) : ∀ cs : List Int, Cls n (cs.map .int)
  | [] => by simp [Cls]
  | c :: cs => by rw [List.map_cons, Cls]; exact ⟨by simp [Cl], cls_ints n cs⟩
theorem cl_st (n : Nat) : Cl n (stD cs p l m) := by
  simp [stD, Cl, Cls, cls_ints]
/-- a call that changes one cell alone -/
theorem cutF_set {F : FM} {ds : List Dt} {d c : Dt} (h : F ds M = some (d, M.set i (some c))) (hd : Cl M.length d) (hc : Cl M.length c) : cutF F ds M = some (d, M.set i (some c)) := by
  unfold cutF
  rw [h]
  simp only
  rw [if_pos]
  · rw [List.take_of_length_le (by simp)]
  · refine ⟨hd, fun j e hj hg => ?_⟩
    by_cases e1 : i = j
    · subst e1
      rw [List.getElem?_set_self hj] at hg
      cases hg
      exact .inr hc
    · rw [List.getElem?_set_ne e1] at hg
      exact .inl hg
theorem cutF_id {F : FM} {ds : List Dt} {d : Dt} (h : F ds M = some (d, M)) (hd : Cl M.length d) : cutF F ds M = some (d, M) := by
  unfold cutF
  rw [h]
  simp only
  rw [if_pos ⟨hd, fun j e hj hg => .inl hg⟩]
  simp
theorem seq_nx {a b : SM} {e e1 : Sl} {M M1 : Mem} (h : a e M = some (.nx, e1, M1)) : seqS a b e M = b e1 M1 := by unfold seqS; rw [h]
theorem seq_rt {a b : SM} {e e1 : Sl} {M M1 : Mem} {d : Dt} (h : a e M = some (.rt d, e1, M1)) : seqS a b e M = some (.rt d, e1, M1) := by unfold seqS; rw [h]
theorem if_t {t : TM} {a b : SM} {e : Sl} {M M1 : Mem} (h : t e M = some (true, M1)) : ifS t a b e M = a e M1 := by unfold ifS; rw [h]; rfl
theorem if_f {t : TM} {a b : SM} {e : Sl} {M M1 : Mem} (h : t e M = some (false, M1)) : ifS t a b e M = b e M1 := by unfold ifS; rw [h]; rfl
theorem if_b {t : TM} {a b : SM} {e : Sl} {M M1 : Mem} {c : Bool} (h : t e M = some (c, M1)) : ifS t a b e M = if c = true then a e M1 else b e M1 := by unfold ifS; rw [h]; rfl
theorem body_rt {n : Nat} {m : SM} {ds : List Dt} {M M' : Mem} {e : Sl} {d : Dt} (h : m (ds.map some ++ List.replicate (n - ds.length) none) M = some (.rt d, e, M')) : body n m ds M = some (d, M') := by unfold body; rw [h]
theorem at_nat {α : Type} {xs : List α} {p : Int} {x : α} (h0 : 0 ≤ p) (h : xs[p.toNat]? = some x) : L2.atI xs p = some x := by
  have hl := (List.getElem?_eq_some_iff.mp h).1
  unfold L2.atI L2.ixN
  rw [if_pos h0, if_pos (by omega)]
  exact h
theorem pow18 : powD (.int 10) (.int 18) = some (.int 1000000000000000000) := by
  simp only [powD, intD]
  rw [if_pos ⟨by decide, by decide, by decide⟩]
  rfl
theorem mul_mix {m k : Int} (h0 : 0 ≤ m) (h1 : m < 2147483648) (hk : 0 ≤ k) (hk2 : k < 100000) : mulD (.int m) (.int k) = some (.int (m * k)) := by
  simp only [mulD, intD]
  rw [if_pos (.inl ⟨by omega, by omega⟩)]
theorem mod_int {a b : Int} (h : b ≠ 0) : fmodD (.int a) (.int b) = some (.int (a.fmod b)) := by
  simp only [fmodD, intD]
  rw [if_pos h]
theorem div_int {a b : Int} (h : 0 < b) (h2 : b < 1073741824) : fdivD (.int a) (.int b) = some (.int (a.fdiv b)) := by
  simp only [fdivD, intD]
  rw [if_pos ⟨by omega, by omega⟩]
theorem fmod_range {a b : Int} (h : 0 < b) : 0 ≤ a.fmod b ∧ a.fmod b < b := by
  rw [Int.fmod_eq_emod_of_nonneg _ (Int.le_of_lt h)]
  exact ⟨Int.emod_nonneg _ (by omega), Int.emod_lt_of_pos _ h⟩
theorem fdiv_range {a b : Int} (h : 0 < b) (ha : 0 ≤ a) : 0 ≤ a.fdiv b := by
  rw [Int.fdiv_eq_ediv_of_nonneg _ (Int.le_of_lt h)]
  exact Int.ediv_nonneg ha (by omega)
/-- one draw: a number below the bound; only the state's cell changes -/
theorem draw_body (h : M[i]? = some (some (stD cs p l m))) (ok : StOk cs p l m) {b : Int} (hb : 0 < b) (hb2 : b < 1073741824) :
    ∃ r p' l' m', 0 ≤ r ∧ r < b ∧ StOk cs p' l' m' ∧ body 4 m_draw [.ref i, .int b] M = some (.int r, M.set i (some (stD cs p' l' m'))) := by
  have hi := (List.getElem?_eq_some_iff.mp h).1
  obtain ⟨okc, okp, okl, okm1, okm2⟩ := ok
  have nb : b ≠ 0 := by omega
  have len : lenF [Dt.lst (cs.map Dt.int)] M = some (.int (cs.length : Int), M) := by simp [lenF, lenD, seqAt]
  have t1 : ∀ (e : Sl), e[0]? = some (some (.ref i)) → (andT (blT (opE eqD (opE ixA (varE 0) (cE (.str "left"))) (cE (.int 0)))) (blT (opE ltD (opE ixA (varE 0) (cE (.str "at"))) (callE lenF (consA (opE ixA (varE 0) (cE (.str "cells"))) nilA))))) e M = some (decide (l = 0) && decide (p < cs.length), M) := by
    intro e he
    simp only [andT, blT, opE, varE, cE, he, thn1_some, st_left h, st_at h, st_cells h, eqD, eqO_int, pur_some, Option.map_some, callE, consA, nilA, len, ltD, ltO_int]
    by_cases h0 : l = 0
    · simp [h0]
    · simp [h0]
  -- the numbers left in a cell
  have left1 : ∀ (q mm : Int) (e : Sl), 0 ≤ q → 0 ≤ l → 0 ≤ mm ∧ mm < 2147483648 → e[0]? = some (some (.ref i)) → e[1]? = some (some (.int b)) → 3 < e.length → ∀ M1 : Mem, ∀ l1 : Int, 0 ≤ l1 → M1[i]? = some (some (stD cs q l1 mm)) →
      ∃ r p' l' m' e', 0 ≤ r ∧ r < b ∧ StOk cs p' l' m' ∧ (seqS (ifS (blT (opE (pure2 gtI) (opE ixA (varE 0) (cE (.str "left"))) (cE (.int 0)))) (seqS (setS 3 (opE (pure2 fmodD) (callE (pureF intF) (consA (opE ixA (varE 0) (cE (.str "left"))) nilA)) (varE 1)))
        (seqS (asgS (opE (pure2 fdivD) (opE ixA (varE 0) (cE (.str "left"))) (varE 1)) (subG (varE 0) (cE (.str "left"))))
        (rtS (varE 3)))) nxS)
        (seqS (asgS (opE (pure2 fmodD) (callE (pureF intF) (consA (opE (pure2 addD) (opE (pure2 mulD) (opE ixA (varE 0) (cE (.str "mix"))) (cE (.int 48271))) (cE (.int 11))) nilA)) (cE (.int 2147483647))) (subG (varE 0) (cE (.str "mix"))))
        (rtS (opE (pure2 fmodD) (callE (pureF intF) (consA (opE (pure2 fmodD) (callE (pureF intF) (consA (opE (pure2 addD) (opE (pure2 mulD) (opE ixA (varE 0) (cE (.str "mix"))) (cE (.int 69621))) (cE (.int 5))) nilA)) (cE (.int 2147483629))) nilA)) (varE 1))))) e M1 =
        some (.rt (.int r), e', M1.set i (some (stD cs p' l' m'))) := by
    intro q mm e hq _ hmm he0 he1 hel M1 l1 hl1 h1
    have g1 : (blT (opE (pure2 gtI) (opE ixA (varE 0) (cE (.str "left"))) (cE (.int 0)))) e M1 = some (decide (0 < l1), M1) := by
      simp only [blT, opE, varE, cE, he0, thn1_some, st_left h1, pure2, gtI, cmpD, pur_some]
    by_cases hp : 0 < l1
    · have e3 : (e.set 3 (some (.int (l1.fmod b))))[3]? = some (some (.int (l1.fmod b))) := List.getElem?_set_self hel
      have e0 : (e.set 3 (some (.int (l1.fmod b))))[0]? = some (some (.ref i)) := by rw [List.getElem?_set_ne (by decide)]; exact he0
      have e1 : (e.set 3 (some (.int (l1.fmod b))))[1]? = some (some (.int b)) := by rw [List.getElem?_set_ne (by decide)]; exact he1
      refine ⟨l1.fmod b, q, l1.fdiv b, mm, e.set 3 (some (.int (l1.fmod b))), (fmod_range hb).1, (fmod_range hb).2, ⟨okc, hq, fdiv_range hb hl1, hmm⟩, ?_⟩
      rw [seq_rt]
      rw [if_t (by rw [g1, decide_eq_true hp])]
      rw [seq_nx (e1 := e.set 3 (some (.int (l1.fmod b)))) (M1 := M1)]
      · rw [seq_nx (e1 := e.set 3 (some (.int (l1.fmod b)))) (M1 := M1.set i (some (stD cs q (l1.fdiv b) mm)))]
        · simp only [rtS, varE, e3, thn1_some]
        · simp only [asgS, subG, opE, varE, cE, e0, e1, thn1_some, st_left h1, pure2, div_int hb hb2, pur_some, st_setLeft h1, Option.map_some]
      · simp only [setS, opE, callE, consA, nilA, pureF, intF, varE, cE, he0, he1, thn1_some, st_left h1, pure2, mod_int nb, pur_some]
    · have h2 : (M1.set i (some (stD cs q l1 ((mm * 48271 + 11).fmod 2147483647))))[i]? = some (some (stD cs q l1 ((mm * 48271 + 11).fmod 2147483647))) := set_same h1 _
      have r1 := fmod_range (a := mm * 48271 + 11) (b := 2147483647) (by decide)
      refine ⟨((((mm * 48271 + 11).fmod 2147483647) * 69621 + 5).fmod 2147483629).fmod b, q, l1, (mm * 48271 + 11).fmod 2147483647, e, (fmod_range hb).1, (fmod_range hb).2, ⟨okc, hq, hl1, r1.1, by omega⟩, ?_⟩
      rw [seq_nx (e1 := e) (M1 := M1) (by rw [if_f (by rw [g1, decide_eq_false hp])]; rfl)]
      rw [seq_nx (e1 := e) (M1 := M1.set i (some (stD cs q l1 ((mm * 48271 + 11).fmod 2147483647))))]
      · simp only [rtS, opE, callE, consA, nilA, pureF, intF, varE, cE, he0, he1, thn1_some, st_mix h2, pure2, mul_mix (k := 69621) r1.1 (by omega) (by decide) (by decide), addD, mod_int (b := 2147483629) (by decide), mod_int nb, pur_some]
      · simp only [asgS, subG, opE, callE, consA, nilA, pureF, intF, varE, cE, he0, he1, thn1_some, st_mix h1, pure2, mul_mix (k := 48271) hmm.1 hmm.2 (by decide) (by decide), addD, mod_int (b := 2147483647) (by decide), pur_some, st_setMix h1, Option.map_some]
  by_cases hc : l = 0 ∧ p < cs.length
  · obtain ⟨rfl, hp⟩ := hc
    obtain ⟨c, hcc⟩ : ∃ c, cs[p.toNat]? = some c := ⟨_, List.getElem?_eq_getElem (by omega)⟩
    have hc0 : 0 ≤ c := okc c (List.mem_of_getElem? hcc)
    have hat : L2.atI (cs.map Dt.int) p = some (.int c) := at_nat okp (by rw [List.getElem?_map, hcc]; rfl)
    have h1 : (M.set i (some (stD cs (p + 1) 0 m)))[i]? = some (some (stD cs (p + 1) 0 m)) := set_same h _
    have r1 := fmod_range (a := m * 48271 + c + 11) (b := 2147483647) (by decide)
    have h2 : ((M.set i (some (stD cs (p + 1) 0 m))).set i (some (stD cs (p + 1) 0 ((m * 48271 + c + 11).fmod 2147483647))))[i]? = some (some (stD cs (p + 1) 0 ((m * 48271 + c + 11).fmod 2147483647))) := set_same h1 _
    have ee : ([Dt.ref i, .int b].map some ++ List.replicate (4 - [Dt.ref i, .int b].length) none : Sl) = [some (.ref i), some (.int b), none, none] := rfl
    have first : ∀ X : SM, (seqS (setS 2 (opE ixA (opE ixA (varE 0) (cE (.str "cells"))) (opE ixA (varE 0) (cE (.str "at")))))
      (seqS (asgS (opE (pure2 addD) (opE ixA (varE 0) (cE (.str "at"))) (cE (.int 1))) (subG (varE 0) (cE (.str "at"))))
      (seqS (asgS (opE (pure2 fmodD) (callE (pureF intF) (consA (opE (pure2 addD) (opE (pure2 addD) (opE (pure2 mulD) (opE ixA (varE 0) (cE (.str "mix"))) (cE (.int 48271))) (varE 2)) (cE (.int 11))) nilA)) (cE (.int 2147483647))) (subG (varE 0) (cE (.str "mix"))))
      X))) [some (.ref i), some (.int b), none, none] M = X [some (.ref i), some (.int b), some (.int c), none] (M.set i (some (stD cs (p + 1) 0 ((m * 48271 + c + 11).fmod 2147483647)))) := by
      intro X
      rw [seq_nx (e1 := [some (.ref i), some (.int b), some (.int c), none]) (M1 := M)]
      · rw [seq_nx (e1 := [some (.ref i), some (.int b), some (.int c), none]) (M1 := M.set i (some (stD cs (p + 1) 0 m)))]
        · rw [seq_nx (e1 := [some (.ref i), some (.int b), some (.int c), none]) (M1 := (M.set i (some (stD cs (p + 1) 0 m))).set i (some (stD cs (p + 1) 0 ((m * 48271 + c + 11).fmod 2147483647))))]
          · rw [List.set_set]
          · simp only [asgS, subG, opE, callE, consA, nilA, pureF, intF, varE, cE, List.getElem?_cons_zero, List.getElem?_cons_succ, thn1_some, st_mix h1, pure2, mul_mix (k := 48271) okm1 okm2 (by decide) (by decide), addD, mod_int (b := 2147483647) (by decide), pur_some, st_setMix h1, Option.map_some]
        · simp only [asgS, subG, opE, varE, cE, List.getElem?_cons_zero, thn1_some, st_at h, pure2, addD, pur_some, st_setAt h, Option.map_some]
      · simp only [setS, opE, varE, cE, List.getElem?_cons_zero, thn1_some, st_at h, st_cells h]
        simp [ixA, dictAt, ixD, seqAt, hat]
    have small : ∀ M1 : Mem, (blT (opE ltD (varE 2) (opE (pure2 powD) (cE (.int 10)) (cE (.int 18))))) [some (.ref i), some (.int b), some (.int c), none] M1 = some (decide (c < 1000000000000000000), M1) := by
      intro M1
      simp only [blT, opE, varE, cE, List.getElem?_cons_zero, List.getElem?_cons_succ, thn1_some, pure2, pow18, pur_some, ltD, ltO_int, Option.map_some]
    by_cases hs : c < 1000000000000000000
    · refine ⟨c.fmod b, p + 1, 0, (m * 48271 + c + 11).fmod 2147483647, (fmod_range hb).1, (fmod_range hb).2, ⟨okc, by omega, by omega, r1.1, by omega⟩, body_rt (e := [some (.ref i), some (.int b), some (.int c), none]) ?_⟩
      rw [ee]
      unfold m_draw
      refine seq_rt ?_
      rw [if_t (M1 := M) (by rw [t1 _ rfl]; simp [hp]), first]
      refine seq_rt ?_
      rw [if_t (by rw [small, decide_eq_true hs])]
      simp only [rtS, opE, callE, consA, nilA, pureF, intF, varE, cE, List.getElem?_cons_zero, List.getElem?_cons_succ, thn1_some, pure2, mod_int nb, pur_some]
    · obtain ⟨r, p', l', m', e', k1, k2, k3, k4⟩ := left1 (p + 1) ((m * 48271 + c + 11).fmod 2147483647) [some (.ref i), some (.int b), some (.int c), none] (by omega) (by omega) ⟨r1.1, by omega⟩ rfl rfl (by simp)
        (M.set i (some (stD cs (p + 1) c ((m * 48271 + c + 11).fmod 2147483647)))) c hc0 (set_same h _)
      refine ⟨r, p', l', m', k1, k2, k3, body_rt (e := e') ?_⟩
      rw [ee]
      unfold m_draw
      rw [seq_nx (e1 := [some (.ref i), some (.int b), some (.int c), none]) (M1 := M.set i (some (stD cs (p + 1) c ((m * 48271 + c + 11).fmod 2147483647))))]
      · rw [k4, List.set_set]
      · rw [if_t (M1 := M) (by rw [t1 _ rfl]; simp [hp]), first]
        rw [seq_nx (e1 := [some (.ref i), some (.int b), some (.int c), none]) (M1 := M.set i (some (stD cs (p + 1) 0 ((m * 48271 + c + 11).fmod 2147483647)))) (by rw [if_f (by rw [small, decide_eq_false hs])]; rfl)]
        have h3 := set_same h (some (stD cs (p + 1) 0 ((m * 48271 + c + 11).fmod 2147483647)))
        simp only [asgS, subG, varE, cE, List.getElem?_cons_zero, List.getElem?_cons_succ, thn1_some, st_setLeft h3, Option.map_some, List.set_set]
  · obtain ⟨r, p', l', m', e', k1, k2, k3, k4⟩ := left1 p m [some (.ref i), some (.int b), none, none] okp okl ⟨okm1, okm2⟩ rfl rfl (by simp) M l okl h
    refine ⟨r, p', l', m', k1, k2, k3, body_rt (e := e') ?_⟩
    have ee : ([Dt.ref i, .int b].map some ++ List.replicate (4 - [Dt.ref i, .int b].length) none : Sl) = [some (.ref i), some (.int b), none, none] := rfl
    rw [ee]
    unfold m_draw
    rw [seq_nx (e1 := [some (.ref i), some (.int b), none, none]) (M1 := M)]
    · exact k4
    · rw [if_f]
      · rfl
      · rw [t1 _ rfl]
        have : (decide (l = 0) && decide (p < cs.length)) = false := by
          rw [Bool.and_eq_false_iff, decide_eq_false_iff_not, decide_eq_false_iff_not]
          by_cases h0 : l = 0
          · exact .inr fun z => hc ⟨h0, z⟩
          · exact .inl h0
        rw [this]
/-- one draw -/
theorem draw (h : M[i]? = some (some (stD cs p l m))) (ok : StOk cs p l m) {b : Int} (hb : 0 < b) (hb2 : b < 1073741824) :
    ∃ r p' l' m', 0 ≤ r ∧ r < b ∧ StOk cs p' l' m' ∧ F_draw [.ref i, .int b] M = some (.int r, M.set i (some (stD cs p' l' m'))) := by
  obtain ⟨r, p', l', m', h1, h2, h3, h4⟩ := draw_body h ok hb hb2
  exact ⟨r, p', l', m', h1, h2, h3, cutF_set h4 (by simp [Cl]) (cl_st _)⟩
end
/-! ### the state kept, and all else -/
/-- M' is M but for the state at i -/
structure Dr (i : Nat) (M M' : Mem) : Prop where
  st : IsSt i M'
  oth : ∀ j, j ≠ i → M'[j]? = M[j]?
  len : M'.length = M.length
theorem Dr.refl {i : Nat} {M : Mem} (h : IsSt i M) : Dr i M M := ⟨h, fun _ _ => rfl, rfl⟩
theorem Dr.trans {i : Nat} {M M1 M2 : Mem} (a : Dr i M M1) (b : Dr i M1 M2) : Dr i M M2 := ⟨b.st, fun j h => (b.oth j h).trans (a.oth j h), b.len.trans a.len⟩
theorem draw_dr {i : Nat} {M : Mem} (h : IsSt i M) {b : Int} (hb : 0 < b) (hb2 : b < 1073741824) : ∃ r M', 0 ≤ r ∧ r < b ∧ Dr i M M' ∧ F_draw [.ref i, .int b] M = some (.int r, M') := by
  obtain ⟨cs, p, l, m, h1, ok⟩ := h
  obtain ⟨r, p', l', m', h2, h3, h4, h5⟩ := draw h1 ok hb hb2
  exact ⟨r, _, h2, h3, ⟨⟨cs, p', l', m', set_same h1 _, h4⟩, fun j hj => List.getElem?_set_ne hj.symm, List.length_set⟩, h5⟩
/-- a call whose changes are the state's alone -/
theorem cutF_dr {F : FM} {ds : List Dt} {i : Nat} {M M' : Mem} {d : Dt} (r : Dr i M M') (h : F ds M = some (d, M')) (hd : Cl M.length d) : cutF F ds M = some (d, M') := by
  unfold cutF
  rw [h]
  simp only
  rw [if_pos]
  · rw [List.take_of_length_le (by rw [r.len]; exact Nat.le_refl _)]
  · refine ⟨hd, fun j e hj hg => ?_⟩
    by_cases e1 : j = i
    · subst e1
      obtain ⟨cs, p, l, m, h1, _⟩ := r.st
      rw [h1] at hg
      cases hg
      exact .inr (cl_st _)
    · rw [r.oth j e1] at hg
      exact .inl hg
theorem cls_mem {n : Nat} : ∀ {xs : List Dt} {x : Dt}, Cls n xs → x ∈ xs → Cl n x
  | _ :: xs, x, h, hx => by
    rw [Cls] at h
    rcases List.mem_cons.mp hx with rfl | hx
    · exact h.1
    · exact cls_mem h.2 hx
/-- things[draw(len(things))] -/
theorem pick_dr {i : Nat} {M : Mem} {xs : List Dt} {d : Dt} (h : IsSt i M) (hx : ∀ M', Dr i M M' → seqAt M' d = some xs) (hd : dictAt M d = none) (hs : ∀ z, d ≠ .str z) (hi : ∀ M', Dr i M M' → dictAt M' d = none) (h0 : xs ≠ []) (hl : xs.length < 1073741824) (hc : Cls M.length xs) :
    ∃ x M', x ∈ xs ∧ Dr i M M' ∧ F_pick [.ref i, d] M = some (x, M') := by
  have hlen : lenF [d] M = some (.int (xs.length : Int), M) := by
    have : lenD M d = some xs.length := by
      cases d with
      | str z => exact absurd rfl (hs z)
      | _ => simp only [lenD, hx M (Dr.refl h), Option.map_some]
    simp only [lenF, this, Option.map_some, pur_some]
  have hp : 0 < xs.length := List.length_pos_iff.mpr h0
  obtain ⟨r, M', h1, h2, h3, h4⟩ := draw_dr h (b := xs.length) (by omega) (by omega)
  obtain ⟨x, hx2⟩ : ∃ x, xs[r.toNat]? = some x := ⟨_, List.getElem?_eq_getElem (by omega)⟩
  refine ⟨x, M', List.mem_of_getElem? hx2, h3, ?_⟩
  have hix : ixA d (.int r) M' = some (x, M') := by
    unfold ixA
    rw [hi M' h3]
    unfold ixD
    simp only
    cases d with
    | str z => exact absurd rfl (hs z)
    | _ => simp only [hx M' h3, Option.bind_some, at_nat h1 hx2, pur_some]
  refine cutF_dr h3 ?_ ?_
  · refine body_rt (e := [some (.ref i), some d]) ?_
    have ee : ([Dt.ref i, d].map some ++ List.replicate (2 - [Dt.ref i, d].length) none : Sl) = [some (.ref i), some d] := rfl
    rw [ee]
    unfold m_pick
    simp only [rtS, opE, callE, consA, nilA, varE, List.getElem?_cons_zero, List.getElem?_cons_succ, thn1_some, hlen, h4, hix]
  · exact cls_mem hc (List.mem_of_getElem? hx2)
end DL
/-! The data layer, part l: the beginning of a law, its end; keys as data. -/
namespace DL
open PySem PySem.Spec PyProof.Rows L2

/-! ### a law from its plain function -/
theorem law_walk {l : PySem.W.OpenLaw} {q : Program} {loose : List Str} {XP : (Str → Option Value) → Heap → Prop} {YP : World → Heap → Prop} {d : DefRec} {K : Params → PySem.W.Frag} {k : Nat} {F : FM} (hn : l.most = some 63) (hdf : d.params.defaults = []) (hr : Room k callerA)
    (hF : ∀ ns : List Int, ns.length ≤ 63 → ∃ M', F [.lsk (ns.map .int)] [] = some (.bl true, M'))
    (hY : ∀ (w : World) (h : Heap), YP w h → (K w.params).In h)
    (G : ∀ (w : World) (mg : Str → Option Value) (fa : Addr) (h : Heap), (K w.params).In h → h.Ns mainGlobals mg → mg d.name = some (.ref fa) →
      ∃ fd : FuncData, (∀ (s : Shared) (u : Value), BindsTo s fd ⟨[u], []⟩ [("script", u)]) ∧ ∀ base : Heap, (K w.params).In base → base.Ns mainGlobals mg → FnOk l.prog w (K w.params) mg base CX0 k fa fd ["script"] (spF (K w.params) w 1 F)) :
    PySem.W.WalkO q loose XP YP l.row.toRowW d [] (fun f vs => PySem.call f vs) :=
  L2.walk_of (n := 63) (k := k) (x := "script") (CX := fun _ => CX0) (sp := fun w => spF (K w.params) w 1 F) hn (by decide) hdf hr hY G (fun w H a ns hl hO hS => by
    obtain ⟨M', hm⟩ := hF ns hl
    have hI : ImL (K w.params) H a (ns.map V.int) := by
      rcases hS with (h | h) | h
      · rcases hO a with z | ⟨o, xs, z⟩
        · rw [z] at h; cases h
        · rw [z] at h; cases h
      · exact .inl h
      · exact .inr h
    have hv : ∀ {w0 : Ws} (ns : List Int), Dvs (K w.params) w w0 (ns.map V.int) (ns.map Dt.int) := fun {w0} ns => by
      induction ns with
      | nil => exact .nil
      | cons n ns ih => exact .cons (.int n) ih
    refine ⟨⟨[], [], H, []⟩, [.lsk (ns.map .int)], .bl true, M', rfl, ⟨rfl, List.nodup_nil, (fun a h => absurd h (by simp)), (fun a h => absurd h (by simp)), fun i a c h => by simp at h⟩, .cons (.lstK hI (hv ns)) .nil, rfl, hm, fun w' v _ _ _ r => ?_⟩
    cases r
    rfl) fun _ _ _ _ _ z => z

/-! ### the state's beginning -/
theorem lc_pure {gd : Mem → Prop} {i : Nat} {el : EM} {e0 : Sl} {g : Dt → Dt} {M : Mem} (hg : gd M) : ∀ (ds acc : List Dt), (∀ d ∈ ds, el (e0.set i (some d)) M = some (g d, M)) → acc.length + ds.length ≤ sizeLine → lcL gd (.one i) yesT el e0 ds acc M = some (acc ++ ds.map g, M)
  | [], acc, _, _ => by
    unfold lcL
    rw [if_pos hg, List.map_nil, List.append_nil]
  | d :: ds, acc, h, hl => by
    rw [List.length_cons] at hl
    unfold lcL
    rw [if_pos hg]
    simp only [Tgt.m, yesT, thn1_some, if_true, h d List.mem_cons_self]
    rw [if_pos (by omega), lc_pure hg ds (acc ++ [g d]) (fun x hx => h x (List.mem_cons_of_mem _ hx)) (by rw [List.length_append, List.length_singleton]; omega)]
    simp
theorem start_dr {ns : List Int} (hl : ns.length ≤ 63) {M : Mem} : ∃ st, F_start [.lsk (ns.map .int)] M = some (.ref M.length, M ++ [some st]) ∧ IsSt M.length (M ++ [some st]) ∧ ∀ n, Cl n st := by
  refine ⟨stD (ns.map fun n => if n < 0 then -n else n) 0 0 (7 + (ns.length : Int)), ?_, ⟨ns.map fun n => if n < 0 then -n else n, 0, 0, 7 + (ns.length : Int), by simp, ⟨?_, by omega, by omega, by omega, by omega⟩⟩, fun n => cl_st n⟩
  · have h1 : lcE (seqI (varE 0)) (.one 1) yesT (callE (pureF absF) (consA (callE (pureF intF) (consA (varE 1) nilA)) nilA)) [1] [some (.lsk (ns.map .int)), none] M = some (.lst ((ns.map fun n => if n < 0 then -n else n).map .int), M) := by
      have := lc_pure (gd := fun _ => True) (i := 1) (el := (callE (pureF absF) (consA (callE (pureF intF) (consA (varE 1) nilA)) nilA))) (e0 := wipeS [some (Dt.lsk (ns.map Dt.int)), none] [1]) (g := fun d => match d with | .int n => .int (if n < 0 then -n else n) | d => d) (M := M) True.intro (ns.map Dt.int) [] (fun d hd => by
        obtain ⟨n, _, rfl⟩ := List.mem_map.mp hd
        rfl) (by rw [List.length_map, sizeLine_eq]; simp; omega)
      unfold lcE
      simp only [seqI, varE, List.getElem?_cons_zero, thn1_some, itemsOf, pur_some]
      rw [this]
      simp [List.map_map, Function.comp_def]
    have h2 : lenF [Dt.lsk (ns.map Dt.int)] M = some (.int (ns.length : Int), M) := by simp [lenF, lenD, seqAt]
    refine body_rt (e := [some (.lsk (ns.map .int)), none]) ?_
    have ee : ([Dt.lsk (ns.map .int)].map some ++ List.replicate (2 - [Dt.lsk (ns.map .int)].length) none : Sl) = [some (.lsk (ns.map .int)), none] := rfl
    rw [ee]
    unfold m_start
    simp only [rtS, dispE, evalP, h1, cE, thn1_some, opE, callE, consA, nilA, varE, List.getElem?_cons_zero, h2, pure2, addD, pur_some, List.map_cons, List.map_nil, strKeys, Option.map_some]
    rw [if_pos ⟨by decide +kernel, by decide⟩]
    rfl
  · intro c hc
    obtain ⟨n, _, rfl⟩ := List.mem_map.mp hc
    split <;> omega

/-! ### keys as data -/
mutual
def toD : NestedKey → Dt
  | .none => .non
  | .num i => .int i
  | .text x => .str x
  | .tup ks => .tup (toDs ks)
def toDs : List NestedKey → List Dt
  | [] => []
  | k :: ks => toD k :: toDs ks
end
theorem toDs_map : ∀ ks : List NestedKey, toDs ks = ks.map toD
  | [] => rfl
  | k :: ks => by rw [toDs, toDs_map ks]; rfl
theorem toD_tup (ks : List NestedKey) : toD (.tup ks) = .tup (ks.map toD) := by rw [toD, toDs_map]
mutual
theorem toOrd_toD : ∀ k : NestedKey, toOrd (toD k) = some k
  | .none => rfl
  | .num _ => rfl
  | .text _ => rfl
  | .tup ks => by rw [toD, toOrd, toOrds_toDs ks]; rfl
theorem toOrds_toDs : ∀ ks : List NestedKey, toOrds (toDs ks) = some ks
  | [] => rfl
  | k :: ks => by rw [toDs, toOrds, toOrd_toD k, toOrds_toDs ks]
end
mutual
theorem toKey_toD : ∀ k : NestedKey, toKey (toD k) = some k
  | .none => rfl
  | .num _ => rfl
  | .text _ => rfl
  | .tup ks => by rw [toD, toKey, toKeys_toDs ks]; rfl
theorem toKeys_toDs : ∀ ks : List NestedKey, toKeys (toDs ks) = some ks
  | [] => rfl
  | k :: ks => by rw [toDs, toKeys, toKey_toD k, toKeys_toDs ks]
end
mutual
theorem toPy_toD : ∀ k : NestedKey, toPy (toD k) = some k.data
  | .none => rfl
  | .num _ => rfl
  | .text _ => rfl
  | .tup ks => by rw [toD, toPy, toPys_toDs ks]; rfl
theorem toPys_toDs : ∀ ks : List NestedKey, toPys (toDs ks) = some (NestedKey.datas ks)
  | [] => rfl
  | k :: ks => by rw [toDs, toPys, toPy_toD k, toPys_toDs ks, NestedKey.datas]
end
theorem toD_inj {a b : NestedKey} (h : toD a = toD b) : a = b := by
  have h1 := toOrd_toD a
  rw [h, toOrd_toD] at h1
  exact (Option.some.inj h1).symm
mutual
theorem cl_toD (n : Nat) : ∀ k : NestedKey, Cl n (toD k)
  | .none => by simp [toD, Cl]
  | .num _ => by simp [toD, Cl]
  | .text _ => by simp [toD, Cl]
  | .tup ks => by rw [toD, Cl]; exact cls_toDs n ks
theorem cls_toDs (n : Nat) : ∀ ks : List NestedKey, Cls n (toDs ks)
  | [] => by simp [toDs, Cls]
  | k :: ks => by rw [toDs, Cls]; exact ⟨cl_toD n k, cls_toDs n ks⟩
end
mutual
/-- texts of code points -/
def txK : NestedKey → Bool
  | .none => true
  | .num _ => true
  | .text x => PyData.strOk x
  | .tup ks => txKs ks
def txKs : List NestedKey → Bool
  | [] => true
  | k :: ks => txK k && txKs ks
end
mutual
theorem lay_data : ∀ k : NestedKey, txK k = true → k.data.canLay0 = true
  | .none, _ => rfl
  | .num _, _ => rfl
  | .text x, h => by rw [txK] at h; rw [NestedKey.data, PyData.canLay0]; exact h
  | .tup ks, h => by rw [txK] at h; rw [NestedKey.data, PyData.canLay0]; exact lay_datas ks h
theorem lay_datas : ∀ ks : List NestedKey, txKs ks = true → PyData.canLayAll0 (NestedKey.datas ks) = true
  | [], _ => rfl
  | k :: ks, h => by
    rw [txKs, Bool.and_eq_true] at h
    rw [NestedKey.datas, PyData.canLayAll0, lay_data k h.1, lay_datas ks h.2]
    rfl
end
mutual
theorem depth_data : ∀ k : NestedKey, k.data.depth = k.depth
  | .none => rfl
  | .num _ => rfl
  | .text _ => rfl
  | .tup ks => by rw [NestedKey.data, PyData.depth, NestedKey.depth, depth_datas ks]
theorem depth_datas : ∀ ks : List NestedKey, PyData.depthAll (NestedKey.datas ks) = NestedKey.depthAll ks
  | [] => rfl
  | k :: ks => by rw [NestedKey.datas, PyData.depthAll, NestedKey.depthAll, depth_data k, depth_datas ks]
end
theorem shaped_data {k : NestedKey} (h : txK k = true) (hd : k.depth ≤ 64) : SeqAt.shaped k.data = true := by
  unfold SeqAt.shaped
  rw [lay_data k h, depth_data, decide_eq_true hd]
  rfl
mutual
theorem eqv_data : ∀ a b : NestedKey, PyData.eqv a.data b.data = NestedKey.beq a b
  | .none, b => by cases b <;> simp [NestedKey.data, PyData.eqv, NestedKey.beq]
  | .num i, b => by cases b <;> simp [NestedKey.data, PyData.eqv, NestedKey.beq] <;> exact Bool.eq_iff_iff.mpr (by simp)
  | .text x, b => by cases b <;> simp [NestedKey.data, PyData.eqv, NestedKey.beq] <;> exact Bool.eq_iff_iff.mpr (by simp)
  | .tup ks, b => by
    cases b with
    | tup js => rw [NestedKey.data, NestedKey.data, PyData.eqv, NestedKey.beq]; exact eqv_datas ks js
    | _ => simp [NestedKey.data, PyData.eqv, NestedKey.beq]
theorem eqv_datas : ∀ as bs : List NestedKey, PyData.eqvAll (NestedKey.datas as) (NestedKey.datas bs) = NestedKey.beqAll as bs
  | [], [] => by simp [NestedKey.datas, PyData.eqvAll, NestedKey.beqAll]
  | [], _ :: _ => by simp [NestedKey.datas, PyData.eqvAll, NestedKey.beqAll]
  | _ :: _, [] => by simp [NestedKey.datas, PyData.eqvAll, NestedKey.beqAll]
  | a :: as, b :: bs => by rw [NestedKey.datas, NestedKey.datas, PyData.eqvAll, NestedKey.beqAll, eqv_data a b, eqv_datas as bs]
end
theorem deref_toD (M : Mem) (k : NestedKey) : deref M (toD k) = toD k := by cases k <;> simp [toD, deref]
/-- == of two keys -/
theorem eqO_toD {M : Mem} {a b : NestedKey} (ha : txK a = true) (hb : txK b = true) (hda : a.depth ≤ 64) (hdb : b.depth ≤ 64) : eqO M (toD a) (toD b) = some (decide (a = b)) := by
  unfold eqO
  rw [deref_toD, deref_toD, toPy_toD, toPy_toD]
  simp only
  rw [if_pos ⟨shaped_data ha hda, shaped_data hb hdb⟩, eqv_data, NestedKey.decide_eq]
theorem ordN_toD {k : NestedKey} (h : k.depth ≤ 16) : ordN (toD k) = some k := by
  unfold ordN
  rw [toOrd_toD]
  simp only
  rw [if_pos h]
theorem ltO_toD {a b : NestedKey} (ha : a.depth ≤ 16) (hb : b.depth ≤ 16) : ltO (toD a) (toD b) = ltK a b := by
  unfold ltO
  rw [ordN_toD ha, ordN_toD hb]
end DL
/-! The data layer, part m: objects, their attributes and methods; methods of lists and dicts. -/
namespace DL
open PySem PySem.Spec PyProof.Rows L2

/-! ### objects -/
def objAt (M : Mem) : Dt → Option (Addr × List Str × List Dt)
  | .obj C ns vs => some (C, ns, vs)
  | .ref i => match M[i]? with
    | some (some (.obj C ns vs)) => some (C, ns, vs)
    | _ => none
  | _ => none
theorem objAt_ok {K : PySem.W.Frag} {W : World} {w : Ws} {d : Dt} {v : V} {C : Addr} {ns : List Str} {vs : List Dt} (ok : Ok K W w) (r : Dv K W w v d) (h : objAt w.M d = some (C, ns, vs)) :
    ∃ a dx xs, v = .ref a ∧ w.H a = some (.ins C dx (ns.zip xs)) ∧ ns.length = xs.length ∧ Dvs K W w xs vs := by
  cases r with
  | obj h1 l n h2 =>
    simp only [objAt, Option.some.injEq, Prod.mk.injEq] at h
    obtain ⟨rfl, rfl, rfl⟩ := h
    exact ⟨_, _, _, rfl, h1, l, h2⟩
  | ref hr =>
    simp only [objAt] at h
    split at h
    · rename_i C' ns' vs' hc
      simp only [Option.some.injEq, Prod.mk.injEq] at h
      obtain ⟨rfl, rfl, rfl⟩ := h
      obtain ⟨dx, xs, h1, l, q⟩ := ok.cells _ _ _ hr hc
      exact ⟨_, dx, xs, rfl, h1, l, q⟩
    · cases h
  | _ => simp [objAt] at h
/-- an attribute among names and values -/
def getN {α : Type} (f : Str) : List Str → List α → Option α
  | g :: ns, v :: vs => if f = g then some v else getN f ns vs
  | _, _ => none
def putN {α : Type} (f : Str) (v : α) : List Str → List α → List α
  | g :: ns, x :: vs => if g = f then v :: vs else x :: putN f v ns vs
  | _, _ => [v]
def addN (f : Str) (ns : List Str) : List Str := if f ∈ ns then ns else ns ++ [f]
theorem getN_zip {K : PySem.W.Frag} {W : World} {w : Ws} {f : Str} : ∀ {ns : List Str} {xs : List V} {vs : List Dt} {d : Dt}, Dvs K W w xs vs → getN f ns vs = some d → ∃ v, (ns.zip xs).lookup f = some v ∧ Dv K W w v d
  | [], _, _, _, _, h => by simp [getN] at h
  | g :: ns, _, _, _, .nil, h => by simp [getN] at h
  | g :: ns, _, _, d, .cons (x := x) (xs := xs) r t, h => by
    rw [getN] at h
    rw [List.zip_cons_cons]
    by_cases e : f = g
    · rw [if_pos e] at h
      cases h
      subst e
      exact ⟨x, by rw [List.lookup_cons]; simp, r⟩
    · rw [if_neg e] at h
      obtain ⟨v, h1, h2⟩ := getN_zip t h
      refine ⟨v, ?_, h2⟩
      rw [List.lookup_cons]
      have : (f == g) = false := by simpa using e
      rw [this]
      exact h1
theorem putN_zip (f : Str) (y : V) : ∀ (ns : List Str) (xs : List V), ns.length = xs.length → putF f y (ns.zip xs) = (addN f ns).zip (putN f y ns xs)
  | [], [], _ => by simp [putF, putN, addN]
  | [], _ :: _, h => by simp at h
  | _ :: _, [], h => by simp at h
  | g :: ns, x :: xs, h => by
    rw [List.zip_cons_cons, putF, putN]
    by_cases e : g = f
    · rw [if_pos e, if_pos e]
      have : addN f (g :: ns) = g :: ns := by unfold addN; rw [if_pos (by simp [e])]
      rw [this, List.zip_cons_cons]
    · rw [if_neg e, if_neg e, putN_zip f y ns xs (by simpa using h)]
      have : addN f (g :: ns) = g :: addN f ns := by
        unfold addN
        by_cases m : f ∈ ns
        · rw [if_pos m, if_pos (List.mem_cons_of_mem _ m)]
        · rw [if_neg m, if_neg]
          · rfl
          · rw [List.mem_cons, not_or]
            exact ⟨fun z => e z.symm, m⟩
      rw [this, List.zip_cons_cons]
theorem putN_length {α : Type} (f : Str) (y : α) : ∀ (ns : List Str) (xs : List α), ns.length = xs.length → (addN f ns).length = (putN f y ns xs).length
  | [], [], _ => by simp [putN, addN]
  | [], _ :: _, h => by simp at h
  | _ :: _, [], h => by simp at h
  | g :: ns, x :: xs, h => by
    have ih := putN_length f y ns xs (by simpa using h)
    rw [putN]
    unfold addN at ih ⊢
    by_cases e : g = f
    · rw [if_pos e, if_pos (by simp [e])]
      simpa using h
    · rw [if_neg e]
      by_cases m : f ∈ ns
      · rw [if_pos m] at ih
        rw [if_pos (List.mem_cons_of_mem _ m)]
        simpa using ih
      · rw [if_neg m] at ih
        rw [if_neg (by rw [List.mem_cons, not_or]; exact ⟨fun z => e z.symm, m⟩)]
        simpa using ih
theorem putN_dvs {K : PySem.W.Frag} {W : World} {w : Ws} {f : Str} {y : V} {d : Dt} (r : Dv K W w y d) : ∀ {ns : List Str} {xs : List V} {vs : List Dt}, Dvs K W w xs vs → Dvs K W w (putN f y ns xs) (putN f d ns vs)
  | [], _, _, .nil => .cons r .nil
  | [], _, _, .cons _ _ => .cons r .nil
  | _ :: _, _, _, .nil => .cons r .nil
  | g :: ns, _, _, .cons h t => by
    rw [putN, putN]
    split
    · exact .cons r t
    · exact .cons h (putN_dvs r t)
section
variable {X : Cx} {K : PySem.W.Frag} {W : World}
/-- o.f, o of the class at C -/
def fldE (C : Addr) (f : Str) (m : EM) : EM := fun e M => thn1 (m e M) fun d M1 => match objAt M1 d with
  | some (C', ns, vs) => if C' = C then pur (getN f ns vs) M1 else none
  | none => none
theorem re_fld {C : Addr} {f : Str} {e : Expr} {pos : Pos} {m : EM} (c : L2.Cls X.K C) (n : NoAttr X.K C f) (he : RE X e m) (hb : attributeBase e f X.env (eval e X.env) = eval e X.env := by rfl) : RE X (.Attribute e f pos) (fldE C f m) := by
  refine pe_weak (pe_fld he hb) fun σ H Q q => ?_
  obtain ⟨w, sl, d, M', rfl, ok, er, hm, fq⟩ := q
  obtain ⟨d0, M1, h1, hm2⟩ := thn1_eq hm
  clear hm
  split at hm2
  · rename_i C' ns vs ho
    split at hm2
    · rename_i hC
      subst hC
      obtain ⟨rfl, hg⟩ := pur_eq hm2
      refine ⟨w, sl, d0, _, rfl, ok, er, h1, fun w1 v hM1 ok1 x1 r => ?_⟩
      obtain ⟨a, dx, xs, rfl, ha, hl, rx⟩ := objAt_ok ok1 r (by rw [hM1]; exact ho)
      obtain ⟨y, hy, ry⟩ := getN_zip rx hg
      exact ⟨a, C', dx, _, y, rfl, ha, c, n, hy, (fq.after x1) w1 y hM1 ok1 (Ext.refl w1) ry⟩
    · cases hm2
  · cases hm2
/-- o.f = v -/
def storeF (M : Mem) (C : Addr) (f : Str) (o v : Dt) : Option Mem := match o with
  | .ref i => match M[i]? with
    | some (some (.obj C' ns vs)) => if C' = C ∧ ns.length < 1000 then some (M.set i (some (.obj C (addN f ns) (putN f v ns vs)))) else none
    | _ => none
  | _ => none
def fldS (C : Addr) (f : Str) (mo mv : EM) : SM := fun e M => thn1 (mv e M) fun v M1 => thn1 (mo e M1) fun o M2 => (storeF M2 C f o v).map fun M3 => (.nx, e, M3)
theorem rs_fld {C : Addr} {f : Str} {o value : Expr} {pos pos' : Pos} {mo mv : EM} (c : L2.Cls X.K C) (n : NoAttr X.K C f) (ho : RE X o mo) (hv : RE X value mv) (hs : swapsWith value (some (.Attribute o f pos')) pos.line X.env = pure false := by rfl) :
    RS X (.Assign [.Attribute o f pos'] value pos) (fldS C f mo mv) := by
  refine ps_weak (ps_fld ho hv hs) fun D σ H q => ?_
  obtain ⟨w, sl, fl, sl', M', rfl, ok, er, hm, fq⟩ := q
  obtain ⟨v, M1, h1, hm⟩ := thn1_eq hm
  obtain ⟨od, M2, h2, hm⟩ := thn1_eq hm
  obtain ⟨M3, h3, hm⟩ := Option.map_eq_some_iff.mp hm
  cases hm
  refine ⟨w, sl, v, M1, rfl, ok, er, h1, fun w1 y hM1 ok1 x1 ry => ?_⟩
  refine ⟨w1, sl, od, M2, rfl, ok1, er.mono x1, by rw [hM1]; exact h2, fun w2 x hM2 ok2 x2 rx => ?_⟩
  rw [← hM2] at h3
  unfold storeF at h3
  split at h3
  · rename_i i
    split at h3
    · rename_i C' ns vs hc
      split at h3
      · rename_i hC
        obtain ⟨rfl, hz⟩ := hC
        cases h3
        cases rx with
        | @ref _ a ha =>
          obtain ⟨dx, xs, hH, hl, rxs⟩ := ok2.cells _ _ _ ha hc
          refine ⟨a, C', dx, _, rfl, hH, c, n, by rw [List.length_zip]; omega, ?_⟩
          rw [putN_zip f y ns xs hl]
          have x3 := Ext.chg ok2 (o := .ins C' dx ((addN f ns).zip (putN f y ns xs))) (c := .obj C' (addN f ns) (putN f v ns vs)) ha hc
          have ok3 := ok2.chg (o := .ins C' dx ((addN f ns).zip (putN f y ns xs))) (c := .obj C' (addN f ns) (putN f v ns vs)) ha hc ⟨dx, _, upd_same, putN_length f y ns xs hl, (putN_dvs (ry.mono x2) rxs).mono x3⟩
          exact fq (w2.chg i a (.ins C' dx ((addN f ns).zip (putN f y ns xs))) (.obj C' (addN f ns) (putN f v ns vs))) rfl ok3 ((x1.trans x2).trans x3) σ ((er.mono (x1.trans x2)).mono x3)
      · cases h3
    · cases h3
  · cases h3
/-- o.m(..), m a def of the class at C -/
def methE (C : Addr) (mn : Str) (F : FM) (mo : EM) (a : AM) : EM := fun e M => thn1 (mo e M) fun d M1 => match objAt M1 d with
  | some (C', ns, _) => if C' = C ∧ (ns.all fun g => decide (g ≠ mn)) = true then thn1 (a e M1) fun ds M2 => F (d :: ds) M2 else none
  | none => none
theorem lookup_none {f : Str} : ∀ {ns : List Str} {xs : List V}, (ns.all fun g => decide (g ≠ f)) = true → (ns.zip xs).lookup f = none
  | [], _, _ => rfl
  | _ :: _, [], _ => rfl
  | g :: ns, x :: xs, h => by
    rw [List.all_cons, Bool.and_eq_true] at h
    rw [List.zip_cons_cons, List.lookup_cons]
    have e : (f == g) = false := by
      have := of_decide_eq_true h.1
      simpa using fun z => this z.symm
    rw [e]
    exact lookup_none h.2
theorem methE_ok {C : Addr} {mn : Str} {n : Nat} {F : FM} {mo : EM} {a : AM} {E : XK} (hn : ∀ sl M ds M', a sl M = some (ds, M') → ds.length + 1 = n) {σ : L2.St} {H : Hp} {Q : VK} (q : tE K W (methE C mn F mo a) σ H Q) : tMeth C mn (spF K W n F) [] E (tE K W mo) (tA K W a) σ H Q := by
  obtain ⟨w, sl, d, M', rfl, ok, er, hm, fq⟩ := q
  obtain ⟨d0, M1, h1, hm2⟩ := thn1_eq hm
  clear hm
  split at hm2
  · rename_i C' ns vs ho
    split at hm2
    · rename_i hC
      obtain ⟨rfl, hnn⟩ := hC
      obtain ⟨ds, M2, h2, hm3⟩ := thn1_eq hm2
      refine ⟨w, sl, d0, M1, rfl, ok, er, h1, fun w1 v hM1 ok1 x1 r => ?_⟩
      obtain ⟨p, dx, xs, rfl, hp, hl, rx⟩ := objAt_ok ok1 r (by rw [hM1]; exact ho)
      refine ⟨p, dx, _, rfl, hp, lookup_none hnn, w1, sl, ds, M2, rfl, ok1, er.mono x1, by rw [hM1]; exact h2, fun w2 us hM2 ok2 x2 ru => ?_⟩
      refine ⟨w2, d0 :: ds, d, M', rfl, ok2, ?_, ?_, by rw [hM2]; exact hm3, fq.after (x1.trans x2)⟩
      · rw [List.append_nil]
        exact .cons (r.mono x2) ru
      · rw [List.length_cons]
        exact hn _ _ _ _ h2
    · cases hm2
  · cases hm2
theorem re_meth {C f : Addr} {mn : Str} {k n : Nat} {fd : FuncData} {ps : List Str} {F : FM} {o e : Expr} {es : List Expr} {apos pos : Pos} {pl : Sem Bool} {mo : EM} {a : AM} (c : L2.Cls X.K C) (hm : Meth X.K C mn f) (G : FnOk X.prog X.w X.K X.mg X.base CX0 k f fd ps (spF X.K X.w n F)) (hr : Room k X.A) (hb : Binds X.K fd ps [])
    (ho : RE X o mo) (ha : RA X (e :: es) a) (hn : ∀ sl M ds M', a sl M = some (ds, M') → ds.length + 1 = n)
    (hst : starEach (e :: es) X.env = (false, eval e X.env) :: starEach es X.env := by rfl) (hpl : (backTo pos (starEach es X.env)).any (·.1) = false := by rfl)
    (ht : eval (.Call (.Attribute o mn apos) (e :: es) [] pos) X.env = (do
      let ov ← eval o X.env
      standAt apos.atName
      let (f, first) ← holding [ov] (getMethod ov mn pl)
      callWith pos f first (backTo pos (starEach (e :: es) X.env)) (backToKw pos (keywordEach [] X.env))) := by rfl) : RE X (.Call (.Attribute o mn apos) (e :: es) [] pos) (methE C mn F mo a) :=
  pe_weak (pe_meth ho c hm G hr hb .nil pass0 ha hst hpl ht) fun σ H Q q => methE_ok hn q
theorem re_meth0 {C f : Addr} {mn : Str} {k : Nat} {fd : FuncData} {ps : List Str} {F : FM} {o : Expr} {apos pos : Pos} {pl : Sem Bool} {mo : EM} (c : L2.Cls X.K C) (hm : Meth X.K C mn f) (G : FnOk X.prog X.w X.K X.mg X.base CX0 k f fd ps (spF X.K X.w 1 F)) (hr : Room k X.A) (hb : Binds X.K fd ps [])
    (ho : RE X o mo)
    (ht : eval (.Call (.Attribute o mn apos) [] [] pos) X.env = (do
      let ov ← eval o X.env
      standAt apos.atName
      let (f, first) ← holding [ov] (getMethod ov mn pl)
      callWith pos f first (backTo pos (starEach [] X.env)) (backToKw pos (keywordEach [] X.env))) := by rfl) : RE X (.Call (.Attribute o mn apos) [] [] pos) (methE C mn F mo nilA) :=
  pe_weak (pe_meth0 ho c hm G hr hb .nil pass0 ht) fun σ H Q q => by
    obtain ⟨w, sl, d, M', rfl, ok, er, hm, fq⟩ := q
    obtain ⟨d0, M1, h1, hm2⟩ := thn1_eq hm
    clear hm
    split at hm2
    · rename_i C' ns vs hoo
      split at hm2
      · rename_i hC
        obtain ⟨rfl, hnn⟩ := hC
        obtain ⟨ds, M2, h2, hm3⟩ := thn1_eq hm2
        cases h2
        refine ⟨w, sl, d0, _, rfl, ok, er, h1, fun w1 v hM1 ok1 x1 r => ?_⟩
        obtain ⟨p, dx, xs, rfl, hp, hl, rx⟩ := objAt_ok ok1 r (by rw [hM1]; exact hoo)
        exact ⟨p, dx, _, rfl, hp, lookup_none hnn, w1, [d0], d, M', rfl, ok1, .cons r .nil, rfl, by rw [hM1]; exact hm3, fq.after x1⟩
      · cases hm2
    · cases hm2
/-- C(..) -/
def makeE (C : Addr) (F : FM) (a : AM) : EM := fun e M => thn1 (a e M) fun ds M1 => match F (.ref M1.length :: ds) (M1 ++ [some (.obj C [] [])]) with
  | some (.non, M2) => some (.ref M1.length, M2)
  | _ => none
theorem makeE_ok {C : Addr} {n : Nat} {F : FM} {a : AM} {E : XK} (hn : ∀ sl M ds M', a sl M = some (ds, M') → ds.length + 1 = n) {σ : L2.St} {H : Hp} {Q : VK} (q : tE K W (makeE C F a) σ H Q) : tMake C (spF K W n F) [] E (tA K W a) σ H Q := by
  obtain ⟨w, sl, d, M', rfl, ok, er, hm, fq⟩ := q
  obtain ⟨ds, M1, h1, hm⟩ := thn1_eq hm
  split at hm
  · rename_i M2 hF
    cases hm
    refine ⟨w, sl, ds, M1, rfl, ok, er, h1, fun w1 us hM1 ok1 x1 ru x dx hx hdx hne => ?_⟩
    have okp := ok1.put (o := .own x) hdx
    have xp := Ext.put ok1 (o := .own x) hdx
    have hx' : (w1.put dx (.own x)).H x = none := by show upd w1.H dx (.own x) x = none; rw [upd_ne hne.symm]; exact hx
    have okc := okp.cell (o := .ins C dx []) (c := .obj C [] []) hx' ⟨dx, [], upd_same, rfl, .nil⟩
    have xc := Ext.cell okp (o := .ins C dx []) (c := .obj C [] []) hx'
    refine ⟨(w1.put dx (.own x)).cell x (.ins C dx []) (.obj C [] []), .ref M1.length :: ds, .non, M', rfl, okc, ?_, ?_, ?_, fun w2 v hM2 ok2 x2 rv => ?_⟩
    · rw [List.append_nil, ← hM1]
      exact .cons (cell_ref okp) ((ru.mono xp).mono xc)
    · rw [List.length_cons]
      exact hn _ _ _ _ h1
    · show F _ (w1.M ++ [some (.obj C [] [])]) = _
      rw [hM1]
      exact hF
    · cases rv
      refine ⟨rfl, fq w2 (.ref x) hM2 ok2 (((x1.trans xp).trans xc).trans x2) ?_⟩
      rw [← hM1]
      exact Dv.mono x2 (cell_ref okp)
  · cases hm
theorem re_make {C f : Addr} {k n : Nat} {fd : FuncData} {ps : List Str} {F : FM} {x : Str} {p pos : Pos} {e : Expr} {es : List Expr} {a : AM} (Mk' : Mk X.K C f) (G : FnOk X.prog X.w X.K X.mg X.base CX0 k f fd ps (spF X.K X.w n F)) (hr : Room (k + 1) X.A) (hg : Gl X x) (hm : X.mg x = some (.ref C)) (hb : Binds X.K fd ps [])
    (ha : RA X (e :: es) a) (hn : ∀ sl M ds M', a sl M = some (ds, M') → ds.length + 1 = n) (hdb : (x == ("__debug__" : Str)) = false := by decide) (he : starEach (e :: es) X.env = (false, eval e X.env) :: starEach es X.env := by rfl) (hpl : (backTo pos (starEach es X.env)).any (·.1) = false := by rfl) :
    RE X (.Call (.Name x p) (e :: es) [] pos) (makeE C F a) := pe_weak (pe_make Mk' G hr hg hm hb .nil pass0 ha hdb he hpl) fun σ H Q q => makeE_ok hn q
theorem re_make0 {C f : Addr} {k : Nat} {fd : FuncData} {ps : List Str} {F : FM} {x : Str} {p pos : Pos} (Mk' : Mk X.K C f) (G : FnOk X.prog X.w X.K X.mg X.base CX0 k f fd ps (spF X.K X.w 1 F)) (hr : Room (k + 1) X.A) (hg : Gl X x) (hm : X.mg x = some (.ref C)) (hb : Binds X.K fd ps [])
    (hdb : (x == ("__debug__" : Str)) = false := by decide) : RE X (.Call (.Name x p) [] [] pos) (makeE C F nilA) := pe_weak (pe_make0 Mk' G hr hg hm hb .nil pass0 hdb) fun σ H Q q => by
  have z := makeE_ok (n := 1) (E := E0) (fun sl M ds M' h => by cases h; rfl) q
  obtain ⟨w, sl, ds, M1, rfl, ok, er, h1, k⟩ := z
  cases h1
  exact k w [] rfl ok (Ext.refl w) .nil

/-! ### methods of the built-in types -/
def TyOk (X : Cx) (T : String) (w : Ws) (x : V) : Prop := ∀ (pins : List (Addr × Obj)) (σ : L2.St) (s : Shared) (v : Value), Inv X pins σ w.H s → RelV x v → s.TypeIs v T ∧ ∀ a, v = .ref a → ∃ ob, s.heap.get? a = some ob ∧ ob.dict = none
def TyR (X : Cx) (T : String) (ty : Mem → Dt → Bool) : Prop := ∀ (w : Ws) (x : V) (d : Dt), Ok X.K X.w w → Dv X.K X.w w x d → ty w.M d = true → TyOk X T w x
def M1Ok (K : PySem.W.Frag) (W : World) (r : V → List V → Hp → VK → Prop) (g : Dt → List Dt → Mem → Option (Dt × Mem)) : Prop :=
  ∀ (w : Ws) (x : V) (xs : List V) (a d : Dt) (ds : List Dt) (M' : Mem) (Q : VK), Ok K W w → Dv K W w x a → Dvs K W w xs ds → g a ds w.M = some (d, M') → Fin1 K W w d M' Q → r x xs w.H Q
def mtE (ty : Mem → Dt → Bool) (g : Dt → List Dt → Mem → Option (Dt × Mem)) (mo : EM) (a : AM) : EM := fun e M => thn1 (mo e M) fun d M1 => if ty M1 d = true then thn1 (a e M1) fun ds M2 => g d ds M2 else none
theorem re_mt {T id : String} {name : Str} {o e : Expr} {es : List Expr} {apos cpos : Pos} {ty : Mem → Dt → Bool} {g : Dt → List Dt → Mem → Option (Dt × Mem)} {r : V → List V → Hp → VK → Prop} {mo : EM} {a : AM} (pa : PlainAttrs T) (slot : Slot T name id) (hty : typeOf (.builtin id) = pure (.type "method_descriptor"))
    (hT : TyR X T ty) (hm : MtM X id r) (hg : M1Ok X.K X.w r g) (ho : RE X o mo) (ha : RA X (e :: es) a)
    (hbase : attributeBase o name X.env (eval o X.env) = eval o X.env := by rfl)
    (hfew : ((backTo cpos (starEach (e :: es) X.env)).all (fun x => !x.1) && (backToKw cpos (keywordEach [] X.env)).all (fun x => x.1.isSome)
      && decide ((e :: es).length + ([] : List Keyword).length + (if ([] : List Keyword).isEmpty then 0 else 1) < 30)) = true := by rfl)
    (hline : (apos.endLine == cpos.line) = true := by rfl) (hs : starEach (e :: es) X.env = (false, eval e X.env) :: starEach es X.env := by rfl) (hplain : (backTo cpos (starEach es X.env)).any (·.1) = false := by rfl) :
    RE X (.Call (.Attribute o name apos) (e :: es) [] cpos) (mtE ty g mo a) := by
  refine ⟨fun pins s σ H Q I q => ?_⟩
  obtain ⟨w, sl, d, M', rfl, ok, er, hmm, fq⟩ := q
  obtain ⟨d0, M1, h1, hmm⟩ := thn1_eq hmm
  split at hmm
  · rename_i ht
    obtain ⟨ds, M2, h2, hmm⟩ := thn1_eq hmm
    refine wpAny_Call_method_late hbase hfew hline rfl (thn (ho.run pins s σ _ (fun x H1 => ∃ w1, w1.H = H1 ∧ w1.M = M1 ∧ Ok X.K X.w w1 ∧ Ext w w1 ∧ Dv X.K X.w w1 x d0) I ⟨w, sl, d0, M1, rfl, ok, er, h1, fun w1 x hM1 ok1 x1 rx => ⟨w1, rfl, hM1, ok1, x1, rx⟩⟩) fun v s1 ⟨x, H1, I1, r1, w1, e1, hM1, ok1, x1, rx⟩ => ?_)
    subst e1
    obtain ⟨g1, g2⟩ := hT w1 x d0 ok1 rx (by rw [hM1]; exact ht) pins σ s1 v I1 r1
    refine ⟨T, id, pa, slot, hty, g1, g2, ?_⟩
    have hA := ha.run cpos pins s1 σ w1.H (fun vs H2 => ∃ w2, w2.H = H2 ∧ w2.M = M2 ∧ Ok X.K X.w w2 ∧ Ext w1 w2 ∧ Dvs X.K X.w w2 vs ds) I1 ⟨w1, sl, ds, M2, rfl, ok1, er.mono x1, by rw [hM1]; exact h2, fun w2 vs hM2 ok2 x2 r2 => ⟨w2, rfl, hM2, ok2, x2, r2⟩⟩
    rw [hs] at hA ⊢
    refine Calls.callWith_builtin (by show (false || (backTo cpos (starEach es X.env)).any (·.1)) = false; rw [hplain] <;> rfl) (Calls.evalArgs_plain ?_)
    refine thn hA fun us s2 ⟨vs, H2, I2, r2, w2, e2, hM2, ok2, x2, rvs⟩ => ?_
    subst e2
    exact hm pins s2 σ w2.H x vs v us Q I2 r1 r2 (hg w2 x vs d0 d ds M' Q ok2 (rx.mono x2) rvs (by rw [hM2]; exact hmm) (fq.after (x1.trans x2)))
  · cases hmm
theorem re_mt0 {T id : String} {name : Str} {o : Expr} {apos cpos : Pos} {ty : Mem → Dt → Bool} {g : Dt → List Dt → Mem → Option (Dt × Mem)} {r : V → List V → Hp → VK → Prop} {mo : EM} (pa : PlainAttrs T) (slot : Slot T name id) (hty : typeOf (.builtin id) = pure (.type "method_descriptor"))
    (hT : TyR X T ty) (hm : MtM X id r) (hg : M1Ok X.K X.w r g) (ho : RE X o mo)
    (hbase : attributeBase o name X.env (eval o X.env) = eval o X.env := by rfl) (hline : (apos.endLine == cpos.line) = true := by rfl) :
    RE X (.Call (.Attribute o name apos) [] [] cpos) (mtE ty g mo nilA) := by
  refine ⟨fun pins s σ H Q I q => ?_⟩
  obtain ⟨w, sl, d, M', rfl, ok, er, hmm, fq⟩ := q
  obtain ⟨d0, M1, h1, hmm⟩ := thn1_eq hmm
  split at hmm
  · rename_i ht
    obtain ⟨ds, M2, h2, hmm⟩ := thn1_eq hmm
    cases h2
    refine wpAny_Call_method0_late hbase hline (thn (ho.run pins s σ _ (fun x H1 => ∃ w1, w1.H = H1 ∧ w1.M = M1 ∧ Ok X.K X.w w1 ∧ Ext w w1 ∧ Dv X.K X.w w1 x d0) I ⟨w, sl, d0, M1, rfl, ok, er, h1, fun w1 x hM1 ok1 x1 rx => ⟨w1, rfl, hM1, ok1, x1, rx⟩⟩) fun v s1 ⟨x, H1, I1, r1, w1, e1, hM1, ok1, x1, rx⟩ => ?_)
    subst e1
    obtain ⟨g1, g2⟩ := hT w1 x d0 ok1 rx (by rw [hM1]; exact ht) pins σ s1 v I1 r1
    exact ⟨T, id, pa, slot, hty, g1, g2, Calls.callWith_builtin rfl (PySem.evalArgs_none (hm pins s1 σ w1.H x [] v [] Q I1 r1 .nil (hg w1 x [] d0 d [] M' Q ok1 rx .nil (by rw [hM1]; exact hmm) (fq.after x1))))⟩
  · cases hmm
/-! lists -/
def isL (M : Mem) (d : Dt) : Bool := (lstAt M d).isSome
theorem isL_ok : TyR X "list" isL := by
  intro w x d ok r h pins σ s v I rv
  obtain ⟨ds, hds⟩ := Option.isSome_iff_exists.mp h
  obtain ⟨a, xs, rfl, q, _⟩ := lstAt_ok ok r hds
  exact tyV_is I rv (.inl ⟨rfl, xs, q⟩)
def appG : Dt → List Dt → Mem → Option (Dt × Mem)
  | .ref i, [y], M => match M[i]? with
    | some (some (.lst ds)) => if ds.length < sizeLine then some (.non, M.set i (some (.lst (ds ++ [y])))) else none
    | _ => none
  | _, _, _ => none
theorem app_ok : M1Ok K W rAppend appG := by
  intro w x xs a d ds M' Q ok rx rs h f
  unfold appG at h
  split at h
  · rename_i i y
    split at h
    · rename_i es hc
      split at h
      · rename_i hz
        cases h
        obtain ⟨u, rfl, ru⟩ := one_arg rs
        cases rx with
        | @ref _ p hp =>
          obtain ⟨ys, hy, q⟩ := ok.cells _ _ _ hp hc
          have x3 := Ext.chg ok (o := .lst (ys ++ [u])) (c := .lst (es ++ [y])) hp hc
          refine ⟨p, ys, u, rfl, rfl, hy, by rw [q.length]; exact hz, ?_⟩
          exact f (w.chg i p (.lst (ys ++ [u])) (.lst (es ++ [y]))) .non rfl (ok.chg hp hc ⟨_, upd_same, (q.append (Dvs.one ru)).mono x3⟩) x3 .non
      · cases h
    · cases h
  · cases h
def extG : Dt → List Dt → Mem → Option (Dt × Mem)
  | .ref i, [y], M => match M[i]? with
    | some (some (.lst ds)) => match (match y with | .lst es => some es | .ref j => (match M[j]? with | some (some (.lst es)) => some es | _ => none) | _ => none) with
      | some es => if ds.length + es.length ≤ sizeLine then some (.non, M.set i (some (.lst (ds ++ es)))) else none
      | none => none
    | _ => none
  | _, _, _ => none
theorem ext_ok : M1Ok K W rExtend extG := by
  intro w x xs a d ds M' Q ok rx rs h f
  unfold extG at h
  split at h
  · rename_i i y
    split at h
    · rename_i es hc
      split at h
      · rename_i zs hz0
        split at h
        · rename_i hz
          cases h
          obtain ⟨u, rfl, ru⟩ := one_arg rs
          obtain ⟨b, us, rfl, hb, qb⟩ : ∃ b us, u = .ref b ∧ w.H b = some (.lst us) ∧ Dvs K W w us zs := by
            cases y with
            | lst es' =>
              simp only [Option.some.injEq] at hz0
              subst hz0
              cases ru with
              | lst h1 n h2 => exact ⟨_, _, rfl, h1, h2⟩
            | ref j =>
              simp only at hz0
              split at hz0
              · rename_i es' hj
                cases hz0
                cases ru with
                | ref hr =>
                  obtain ⟨us, h1, h2⟩ := ok.cells _ _ _ hr hj
                  exact ⟨_, us, rfl, h1, h2⟩
              · cases hz0
            | _ => cases hz0
          cases rx with
          | @ref _ p hp =>
            obtain ⟨ys, hy, q⟩ := ok.cells _ _ _ hp hc
            have x3 := Ext.chg ok (o := .lst (ys ++ us)) (c := .lst (es ++ zs)) hp hc
            refine ⟨p, b, ys, us, rfl, rfl, hy, hb, by rw [q.length, qb.length]; exact hz, ?_⟩
            exact f (w.chg i p (.lst (ys ++ us)) (.lst (es ++ zs))) .non rfl (ok.chg hp hc ⟨_, upd_same, (q.append qb).mono x3⟩) x3 .non
        · cases h
      · cases h
    · cases h
  · cases h
def popG : Dt → List Dt → Mem → Option (Dt × Mem)
  | .ref i, [], M => match M[i]? with
    | some (some (.lst ds)) => match ds[ds.length - 1]? with
      | some y => some (y, M.set i (some (.lst ds.dropLast)))
      | none => none
    | _ => none
  | _, _, _ => none
theorem Dvs.dropLast {w : Ws} {xs : List V} {ds : List Dt} (h : Dvs K W w xs ds) : Dvs K W w xs.dropLast ds.dropLast := by
  rw [List.dropLast_eq_take, List.dropLast_eq_take, h.length]
  exact h.take _
theorem pop_ok : M1Ok K W rPop popG := by
  intro w x xs a d ds M' Q ok rx rs h f
  unfold popG at h
  split at h
  · rename_i i
    split at h
    · rename_i es hc
      split at h
      · rename_i y hy
        cases h
        cases rs
        cases rx with
        | @ref _ p hp =>
          obtain ⟨ys, hH, q⟩ := ok.cells _ _ _ hp hc
          obtain ⟨v, hv, rv⟩ := q.get hy
          have x3 := Ext.chg ok (o := .lst ys.dropLast) (c := .lst es.dropLast) hp hc
          refine ⟨p, ys, v, rfl, rfl, hH, by rw [q.length]; exact hv, ?_⟩
          exact f (w.chg i p (.lst ys.dropLast) (.lst es.dropLast)) v rfl (ok.chg hp hc ⟨_, upd_same, q.dropLast.mono x3⟩) x3 (rv.mono x3)
      · cases h
    · cases h
  · cases h
theorem re_append {o e : Expr} {apos cpos : Pos} {mo : EM} {a : AM} (ho : RE X o mo) (ha : RA X [e] a) (hbase : attributeBase o "append" X.env (eval o X.env) = eval o X.env := by rfl)
    (hfew : ((backTo cpos (starEach [e] X.env)).all (fun x => !x.1) && (backToKw cpos (keywordEach [] X.env)).all (fun x => x.1.isSome)
      && decide ([e].length + ([] : List Keyword).length + (if ([] : List Keyword).isEmpty then 0 else 1) < 30)) = true := by rfl)
    (hline : (apos.endLine == cpos.line) = true := by rfl) (hs : starEach [e] X.env = (false, eval e X.env) :: starEach [] X.env := by rfl) : RE X (.Call (.Attribute o "append" apos) [e] [] cpos) (mtE isL appG mo a) :=
  re_mt F.plainAttrs_list F.slot_list_append F.type_list_append isL_ok mt_append app_ok ho ha hbase hfew hline hs rfl
theorem re_extend {o e : Expr} {apos cpos : Pos} {mo : EM} {a : AM} (ho : RE X o mo) (ha : RA X [e] a) (hbase : attributeBase o "extend" X.env (eval o X.env) = eval o X.env := by rfl)
    (hfew : ((backTo cpos (starEach [e] X.env)).all (fun x => !x.1) && (backToKw cpos (keywordEach [] X.env)).all (fun x => x.1.isSome)
      && decide ([e].length + ([] : List Keyword).length + (if ([] : List Keyword).isEmpty then 0 else 1) < 30)) = true := by rfl)
    (hline : (apos.endLine == cpos.line) = true := by rfl) (hs : starEach [e] X.env = (false, eval e X.env) :: starEach [] X.env := by rfl) : RE X (.Call (.Attribute o "extend" apos) [e] [] cpos) (mtE isL extG mo a) :=
  re_mt F.plainAttrs_list F.slot_list_extend F.type_list_extend isL_ok mt_extend ext_ok ho ha hbase hfew hline hs rfl
theorem re_pop {o : Expr} {apos cpos : Pos} {mo : EM} (ho : RE X o mo) (hbase : attributeBase o "pop" X.env (eval o X.env) = eval o X.env := by rfl)
    (hline : (apos.endLine == cpos.line) = true := by rfl) : RE X (.Call (.Attribute o "pop" apos) [] [] cpos) (mtE isL popG mo nilA) :=
  re_mt0 F.plainAttrs_list F.slot_list_pop F.type_list_pop isL_ok mt_pop pop_ok ho hbase hline
/-! dicts -/
def isD (M : Mem) (d : Dt) : Bool := (dictAt M d).isSome
theorem isD_ok : TyR X "dict" isD := by
  intro w x d ok r h pins σ s v I rv
  obtain ⟨⟨ks, vs⟩, hds⟩ := Option.isSome_iff_exists.mp h
  obtain ⟨a, o, es, ep, kx, vx, rfl, D⟩ := dict_rep ok r hds
  obtain ⟨ns, hns, D'⟩ := D.dat I
  cases rv
  exact ⟨D'.ty, fun b e => by cases e; exact ⟨o, D'.ho, D'.ex.2.1⟩⟩
def getG : Dt → List Dt → Mem → Option (Dt × Mem) := fun a ds M => match dictAt M a with
  | some (ks, vs) => match ds with
    | [k] => pur ((keyN k).map fun n => (findD ks vs n).getD .non) M
    | [k, z] => pur ((keyN k).map fun n => (findD ks vs n).getD z) M
    | _ => none
  | none => none
def rGetD (K : PySem.W.Frag) (W : World) : V → List V → Hp → VK → Prop := fun x xs H Q => ∃ w a ks vs n, w.H = H ∧ Ok K W w ∧ Dv K W w x a ∧ dictAt w.M a = some (ks, vs) ∧
  ((∃ u k, xs = [u] ∧ Dv K W w u k ∧ keyN k = some n ∧ ∀ v, Dv K W w v ((findD ks vs n).getD .non) → Q v H) ∨ (∃ u z k c, xs = [u, z] ∧ Dv K W w u k ∧ keyN k = some n ∧ Dv K W w z c ∧ ∀ v, Dv K W w v ((findD ks vs n).getD c) → Q v H))
theorem mt_get {k : Nat} (hr : Room k X.A) : MtM X "dict.get" (rGetD X.K X.w) := by
  intro pins s σ H x xs v us Q I rx rs h
  obtain ⟨w, a, ks, vs, n, rfl, ok, da, hd, h⟩ := h
  obtain ⟨p, o, es, ep, kx, vx, rfl, D⟩ := dict_rep ok da hd
  obtain ⟨ns, hns, D'⟩ := D.dat I
  cases rx
  have hu := hr.units
  rcases h with ⟨u, kk, rfl, du, hn, q⟩ | ⟨u, z, kk, c, rfl, du, hn, dz, q⟩
  · obtain ⟨hn1, hn2⟩ := keyN_some hn
    obtain ⟨u', rfl, ru⟩ := Vals.one rs
    refine v_get1 D' (by omega) (Dv.nested I kk u n u' du hn1 ru) hn2 ?_
    cases e : findD ks vs n with
    | none =>
      rw [(D.val hns).2 e]
      rw [e] at q
      exact ⟨.non, w.H, I.tok _, rfl, q _ .non⟩
    | some d =>
      obtain ⟨y, z, h1, h2, h3⟩ := (D.val hns).1 d e
      rw [h1]
      rw [e] at q
      exact ⟨z, w.H, I.tok _, h2, q _ h3⟩
  · obtain ⟨hn1, hn2⟩ := keyN_some hn
    obtain ⟨u', z', rfl, ru, rz⟩ := Vals.two rs
    refine v_get2 D' (by omega) (Dv.nested I kk u n u' du hn1 ru) hn2 ?_
    cases e : findD ks vs n with
    | none =>
      rw [(D.val hns).2 e]
      rw [e] at q
      exact ⟨z, w.H, I.tok _, rz, q _ dz⟩
    | some d =>
      obtain ⟨y, z2, h1, h2, h3⟩ := (D.val hns).1 d e
      rw [h1]
      rw [e] at q
      exact ⟨z2, w.H, I.tok _, h2, q _ h3⟩
theorem get_ok : M1Ok K W (rGetD K W) getG := by
  intro w x xs a d ds M' Q ok rx rs h f
  unfold getG at h
  split at h
  · rename_i ks vs hd
    split at h
    · rename_i k
      replace h := pur_eq h
      obtain ⟨rfl, h⟩ := h
      obtain ⟨n, hn, rfl⟩ := Option.map_eq_some_iff.mp h
      obtain ⟨u, rfl, ru⟩ := one_arg rs
      exact ⟨w, a, ks, vs, n, rfl, ok, rx, hd, .inl ⟨u, k, rfl, ru, hn, fun v r => fin_here f ok r⟩⟩
    · rename_i k z
      replace h := pur_eq h
      obtain ⟨rfl, h⟩ := h
      obtain ⟨n, hn, rfl⟩ := Option.map_eq_some_iff.mp h
      obtain ⟨u, y, rfl, ru, ry⟩ := two_args rs
      exact ⟨w, a, ks, vs, n, rfl, ok, rx, hd, .inr ⟨u, y, k, z, rfl, ru, hn, ry, fun v r => fin_here f ok r⟩⟩
    · cases h
  · cases h
theorem re_get {o e : Expr} {es : List Expr} {apos cpos : Pos} {k : Nat} {mo : EM} {a : AM} (hr : Room k X.A) (ho : RE X o mo) (ha : RA X (e :: es) a) (hbase : attributeBase o "get" X.env (eval o X.env) = eval o X.env := by rfl)
    (hfew : ((backTo cpos (starEach (e :: es) X.env)).all (fun x => !x.1) && (backToKw cpos (keywordEach [] X.env)).all (fun x => x.1.isSome)
      && decide ((e :: es).length + ([] : List Keyword).length + (if ([] : List Keyword).isEmpty then 0 else 1) < 30)) = true := by rfl)
    (hline : (apos.endLine == cpos.line) = true := by rfl) (hs : starEach (e :: es) X.env = (false, eval e X.env) :: starEach es X.env := by rfl) (hplain : (backTo cpos (starEach es X.env)).any (·.1) = false := by rfl) : RE X (.Call (.Attribute o "get" apos) (e :: es) [] cpos) (mtE isD getG mo a) :=
  re_mt F.plainAttrs_dict F.slot_dict_get F.type_dict_get isD_ok (mt_get hr) get_ok ho ha hbase hfew hline hs hplain
/-- setdefault -/
def sdG : Dt → List Dt → Mem → Option (Dt × Mem)
  | .ref c, [k, z], M => match M[c]? with
    | some (some (.dic ks vs)) => if ks.length < sizeLine then match keyN k with
      | some n => match findD ks vs n with
        | some d => some (d, M)
        | none => some (z, M.set c (some (.dic (putD ks vs n k z).1 (putD ks vs n k z).2)))
      | none => none
      else none
    | _ => none
  | _, _, _ => none
def rSd (K : PySem.W.Frag) (W : World) : V → List V → Hp → VK → Prop := fun x xs H Q => ∃ w a d ds M', w.H = H ∧ Ok K W w ∧ Dv K W w x a ∧ Dvs K W w xs ds ∧ sdG a ds w.M = some (d, M') ∧ Fin1 K W w d M' Q
theorem mt_setdefault {k : Nat} (hr : Room k X.A) : MtM X "dict.setdefault" (rSd X.K X.w) := by
  intro pins s σ H x xs v us Q I rx rs h
  obtain ⟨w, a, d, ds, M', rfl, ok, da, dxs, h, f⟩ := h
  have hu := hr.units
  unfold sdG at h
  split at h
  · rename_i c kk z
    split at h
    · rename_i ks vs hc
      split at h
      · rename_i hz
        split at h
        · rename_i n hn
          obtain ⟨hn1, hn2⟩ := keyN_some hn
          obtain ⟨u, y, rfl, du, dy⟩ := two_args dxs
          obtain ⟨u', y', rfl, ru, ry⟩ := Vals.two rs
          cases da with
          | @ref _ p hp =>
            obtain ⟨ob, es, ep, kx, vx, h1, r, kk', h2, h3⟩ := ok.cells _ _ _ hp hc
            have D : DRep X w p ks vs ob es ep kx vx := ⟨.inl h1, r, kk', h2, h3⟩
            obtain ⟨ns, hns, D'⟩ := D.dat I
            have hsz : es.size < sizeLine := by rw [D.len]; exact hz
            have ix : ixD' ks n = ixK n ns := by unfold ixD'; rw [hns]; rfl
            cases rx
            split at h
            · rename_i d' hd'
              cases h
              obtain ⟨g, z2, e1, e2, e3⟩ := (D.val hns).1 _ hd'
              refine v_setdefault D' (by omega) (Dv.nested I kk u n u' du hn1 ru) hn2 (Nat.le_of_lt hsz) (fun x hx => ?_) (fun hi => ?_)
              · rw [e1] at hx
                cases hx
                exact ⟨z2, w.H, I.tok _, e2, fin_here f ok e3⟩
              · unfold valAtK at e1
                rw [hi] at e1
                cases e1
            · rename_i hd'
              cases h
              refine v_setdefault D' (by omega) (Dv.nested I kk u n u' du hn1 ru) hn2 (Nat.le_of_lt hsz) (fun x hx => ?_) (fun hi h' o' ep' pt => ?_)
              · rw [(D.val hns).2 hd'] at hx
                cases hx
              · obtain ⟨kx', vx', r', kk2, d1, d2⟩ := raw_put D hns hn ru ry du dy hsz pt.ex pt.hd
                have x3 := Ext.chg ok (o := RawIs p o') (c := .dic (putD ks vs n kk d).1 (putD ks vs n kk d).2) hp hc
                refine ⟨y, _, Inv.rawUpd I h1 pt.same pt.ho, ry, ?_⟩
                exact f (w.chg c p (RawIs p o') (.dic (putD ks vs n kk d).1 (putD ks vs n kk d).2)) y rfl (ok.chg hp hc ⟨o', _, ep', kx', vx', upd_same, r', kk2, d1.mono x3, d2.mono x3⟩) x3 (dy.mono x3)
        · cases h
      · cases h
    · cases h
  · cases h
theorem sd_ok : M1Ok K W (rSd K W) sdG := fun w x xs a d ds M' Q ok rx rs h f => ⟨w, a, d, ds, M', rfl, ok, rx, rs, h, f⟩
theorem re_setdefault {o e e2 : Expr} {apos cpos : Pos} {k : Nat} {mo : EM} {a : AM} (hr : Room k X.A) (ho : RE X o mo) (ha : RA X [e, e2] a) (hbase : attributeBase o "setdefault" X.env (eval o X.env) = eval o X.env := by rfl)
    (hfew : ((backTo cpos (starEach [e, e2] X.env)).all (fun x => !x.1) && (backToKw cpos (keywordEach [] X.env)).all (fun x => x.1.isSome)
      && decide ([e, e2].length + ([] : List Keyword).length + (if ([] : List Keyword).isEmpty then 0 else 1) < 30)) = true := by rfl)
    (hline : (apos.endLine == cpos.line) = true := by rfl) (hs : starEach [e, e2] X.env = (false, eval e X.env) :: starEach [e2] X.env := by rfl) (hplain : (backTo cpos (starEach [e2] X.env)).any (·.1) = false := by rfl) : RE X (.Call (.Attribute o "setdefault" apos) [e, e2] [] cpos) (mtE isD sdG mo a) :=
  re_mt F.plainAttrs_dict F.slot_dict_setdefault F.type_dict_setdefault isD_ok (mt_setdefault hr) sd_ok ho ha hbase hfew hline hs hplain
end
end DL
/-! The data layer, part n: dicts read as lists, their length; dict comprehensions; chains of comparisons. -/
namespace DL
open PySem PySem.Spec PyProof.Rows L2

theorem vals_at : ∀ {xs : List V} {us us' : List Value}, Vals xs us → us = us' → Vals xs us' := fun h e => e ▸ h
section
variable {X : Cx} {K : PySem.W.Frag} {W : World}
/-! ### list(d), len(d) -/
def rListR (K : PySem.W.Frag) (W : World) : List V → Hp → VK → Prop := fun xs H Q => ∃ w x d ks vs, w.H = H ∧ Ok K W w ∧ xs = [x] ∧ Dv K W w x d ∧ dictAt w.M d = some (ks, vs) ∧ ∀ p us, H p = none → Dvs K W w us ks → Q (.ref p) (upd H p (.lst us))
theorem call_list_raw (hc : X.calm = true) : CallR X (.type "list") (rListR X.K X.w) := by
  intro pins s σ H xs us Q I r h
  obtain ⟨w, x, d, ks, vs, rfl, ok, rfl, dx, hd, q⟩ := h
  obtain ⟨u, rfl, rx⟩ := r.one
  obtain ⟨p, o, es, ep, kx, vx, rfl, D⟩ := dict_rep ok dx hd
  obtain ⟨ns, hns, D'⟩ := D.dat I
  cases rx
  have hz := D.raw.sz
  refine PySem.W.kdl_call (kdl_raw D.raw.sm D.raw.ex D.raw.dt) (I.ok.hd hc) D'.ho hz fun h' tk acc' c' kp e it => ?_
  have ea : acc'.toList = es.toList.map (·.key) := by
    have hl : acc'.toList.length = es.size := by rw [Array.length_toList]; exact it.1
    apply List.ext_getElem?
    intro j
    rw [List.getElem?_map]
    cases hj : acc'.toList[j]? with
    | none =>
      have h1 := List.getElem?_eq_none_iff.mp hj
      rw [List.getElem?_eq_none (by rw [Array.length_toList]; omega)]
      rfl
    | some v =>
      obtain ⟨en, hen, hv⟩ := it.2 j v (by rw [← Array.getElem?_toList]; exact hj)
      rw [Array.getElem?_toList, hen, hv]
      rfl
  have rv : Vals kx acc'.toList := vals_at D.raw.ky ea.symm
  have hlen : kx.length ≤ sizeLine := by rw [rv.length, ea, List.length_map, Array.length_toList]; exact hz
  refine ⟨.ref s.heap.objs.size, _, I.laid (t' := tk) (o := .lst kx) kp (Nat.le_refl _) ⟨hlen, acc'.toList, c', rv, by rw [Array.toArray_toList]; exact e⟩, rfl, q _ _ (I.hok.fresh (Nat.le_refl _)) D.dk⟩
def rOr (r r' : List V → Hp → VK → Prop) : List V → Hp → VK → Prop := fun xs H Q => r xs H Q ∨ r' xs H Q
theorem callR_or {f : Value} {r r' : List V → Hp → VK → Prop} (h : CallR X f r) (h' : CallR X f r') : CallR X f (rOr r r') := fun pins s σ H xs us Q I rv q => q.elim (h pins s σ H xs us Q I rv) (h' pins s σ H xs us Q I rv)
/-- the items that list(x) reads -/
def allAt (M : Mem) (d : Dt) : Option (List Dt) := match dictAt M d with
  | some (ks, _) => some ks
  | none => seqAt M d
def listA : FM := fun ds M => match ds with
  | [d] => pur ((allAt M d).map .lst) M
  | _ => none
def listB : FM := fun ds M => match ds with
  | [d] => match allAt M d with
    | some es => some (.ref M.length, M ++ [some (.lst es)])
    | none => none
  | _ => none
abbrev rListA (K : PySem.W.Frag) (W : World) := rOr (fun xs H Q => ∃ p ys, xs = [V.ref p] ∧ (SqL K H p ys ∨ SqT K H p ys) ∧ ∀ l, H l = none → Q (.ref l) (upd H l (.lst ys))) (rListR K W)
theorem call_listA (hc : X.calm = true) : CallR X (.type "list") (rListA X.K X.w) := callR_or call_list_of (call_list_raw hc)
theorem allAt_none {M : Mem} {d : Dt} {es : List Dt} (h : allAt M d = some es) (hd : dictAt M d = none) : seqAt M d = some es := by
  unfold allAt at h
  rw [hd] at h
  exact h
theorem listA_ok : C1Ok K W (rListA K W) listA := by
  intro w xs ds d M' Q ok r h f
  unfold listA at h
  split at h
  · rename_i a
    replace h := pur_eq h
    obtain ⟨rfl, h⟩ := h
    obtain ⟨es, he, rfl⟩ := Option.map_eq_some_iff.mp h
    obtain ⟨x, rfl, rx⟩ := one_arg r
    cases hd : dictAt w.M a with
    | none =>
      obtain ⟨p, ys, rfl, q, rs⟩ := seqAt_ok ok rx (allAt_none he hd)
      exact .inl ⟨p, ys, rfl, q, fin_lst ok rs f⟩
    | some kv =>
      obtain ⟨ks, vs⟩ := kv
      unfold allAt at he
      rw [hd] at he
      cases he
      exact .inr ⟨w, x, a, es, vs, rfl, ok, rfl, rx, hd, fun p us hp ru => fin_lst ok ru f p hp⟩
  · cases h
theorem listB_ok : C1Ok K W (rListA K W) listB := by
  intro w xs ds d M' Q ok r h f
  unfold listB at h
  split at h
  · rename_i a
    split at h
    · rename_i es he
      cases h
      obtain ⟨x, rfl, rx⟩ := one_arg r
      cases hd : dictAt w.M a with
      | none =>
        obtain ⟨p, ys, rfl, q, rs⟩ := seqAt_ok ok rx (allAt_none he hd)
        exact .inl ⟨p, ys, rfl, q, fin_cell ok rs f⟩
      | some kv =>
        obtain ⟨ks, vs⟩ := kv
        unfold allAt at he
        rw [hd] at he
        cases he
        exact .inr ⟨w, x, a, es, vs, rfl, ok, rfl, rx, hd, fun p us hp ru => fin_cell ok ru f p hp⟩
    · cases h
  · cases h
def rLenR (K : PySem.W.Frag) (W : World) : List V → Hp → VK → Prop := fun xs H Q => ∃ w x d ks vs, w.H = H ∧ Ok K W w ∧ xs = [x] ∧ Dv K W w x d ∧ dictAt w.M d = some (ks, vs) ∧ Q (.int ks.length) H
theorem call_len_rawD : CallR X (.builtin "len") (rLenR X.K X.w) := by
  intro pins s σ H xs us Q I r h
  obtain ⟨w, x, d, ks, vs, rfl, ok, rfl, dx, hd, q⟩ := h
  obtain ⟨u, rfl, rx⟩ := r.one
  obtain ⟨p, o, es, ep, kx, vx, rfl, D⟩ := dict_rep ok dx hd
  obtain ⟨ns, hns, D'⟩ := D.dat I
  cases rx
  have hz := D.raw.sz
  have hn := line63
  have e : (es.size : Int) = (ks.length : Int) := by rw [D.len]
  have hs : sizeLine = 16777216 := sizeLine_eq
  refine PyProof.Rows.call_len_slot (n := (es.size : Int)) D'.ty F.slot_dict_len (fun Q' hq => call_len_raw D.raw.sm ⟨o, D'.ho, D'.ex, D'.hd⟩ hq) (by omega) (by omega) ⟨.int ks.length, w.H, I.tok _, ⟨_, by rw [e]⟩, q⟩
def lenA : FM := fun ds M => match ds with
  | [d] => match dictAt M d with
    | some (ks, _) => some (.int (ks.length : Int), M)
    | none => lenF [d] M
  | _ => none
abbrev rLenA (K : PySem.W.Frag) (W : World) := rOr (fun xs H Q => ∃ x n, xs = [x] ∧ LenV K x H n ∧ Q (.int n) H) (rLenR K W)
theorem call_lenA : CallR X (.builtin "len") (rLenA X.K X.w) := callR_or call_len call_len_rawD
theorem lenA_ok : C1Ok K W (rLenA K W) lenA := by
  intro w xs ds d M' Q ok r h f
  unfold lenA at h
  split at h
  · rename_i a
    split at h
    · rename_i ks vs hd
      cases h
      obtain ⟨x, rfl, rx⟩ := one_arg r
      exact .inr ⟨w, x, a, ks, vs, rfl, ok, rfl, rx, hd, fin_here f ok (.int _)⟩
    · exact .inl (len_ok w xs _ d M' Q ok r h f)
  · cases h
/-! ### chains of two comparisons -/
def chainE (g g' : Dt → Dt → Mem → Option (Dt × Mem)) (a b c : EM) : EM := fun e M => thn1 (a e M) fun x M1 => thn1 (b e M1) fun y M2 => thn1 (g x y M2) fun r M3 => match r with
  | .bl true => thn1 (c e M3) fun z M4 => g' y z M4
  | .bl false => some (.bl false, M3)
  | _ => none
theorem chainE_ok {r r' : R2} {g g' : Dt → Dt → Mem → Option (Dt × Mem)} {ma mb mc : EM} (hg : R2Ok K W r g) (hg' : R2Ok K W r' g') (σ : L2.St) (H : Hp) (Q : VK) (h : tE K W (chainE g g' ma mb mc) σ H Q) : tChain r r' (tE K W ma) (tE K W mb) (tE K W mc) σ H Q := by
  obtain ⟨w, sl, d, M', rfl, ok, er, hm, f⟩ := h
  obtain ⟨x, M1, h1, hm1⟩ := thn1_eq hm
  obtain ⟨y, M2, h2, hm2⟩ := thn1_eq hm1
  obtain ⟨c, M3, h3, hm3⟩ := thn1_eq hm2
  refine ⟨w, sl, x, M1, rfl, ok, er, h1, fun w1 v hM1 ok1 x1 r1 => ?_⟩
  refine ⟨w1, sl, y, M2, rfl, ok1, er.mono x1, by rw [hM1]; exact h2, fun w2 u hM2 ok2 x2 r2 => ?_⟩
  refine hg w2 v u x y c M3 _ ok2 (r1.mono x2) r2 (by rw [hM2]; exact h3) fun w3 z hM3 ok3 x3 r3 => ?_
  have x13 := (x1.trans x2).trans x3
  cases c with
  | bl k =>
    cases r3
    refine ⟨k, rfl, ?_⟩
    cases k with
    | true =>
      simp only [if_true]
      obtain ⟨z, M4, h4, hm4⟩ := thn1_eq hm3
      refine ⟨w3, sl, z, M4, rfl, ok3, er.mono x13, by rw [hM3]; exact h4, fun w4 zz hM4 ok4 x4 r4 => ?_⟩
      exact hg' w4 u zz y z d M' Q ok4 ((r2.mono x3).mono x4) r4 (by rw [hM4]; exact hm4) (f.after (x13.trans x4))
    | false =>
      simp only [Bool.false_eq_true, if_false]
      simp only [Option.some.injEq, Prod.mk.injEq] at hm3
      obtain ⟨rfl, rfl⟩ := hm3
      exact f w3 _ hM3 ok3 x13 (.bl _)
  | _ => simp at hm3
theorem re_chain {a b c : Expr} {op op' : CmpOp} {pos : Pos} {r r' : R2} {g g' : Dt → Dt → Mem → Option (Dt × Mem)} {ma mb mc : EM} (ho : OpR X (compareOp op) r) (ho' : OpR X (compareOp op') r') (hg : R2Ok X.K X.w r g) (hg' : R2Ok X.K X.w r' g') (ha : RE X a ma) (hb : RE X b mb) (hc : RE X c mc)
    (hm : lastMarks [op, op'] [b, c] = false := by with_unfolding_all rfl) : RE X (.Compare a [op, op'] [b, c] pos) (chainE g g' ma mb mc) := pe_weak (pe_chain ho ho' ha hb hc hm) (chainE_ok hg hg')
theorem rt_chain {a b c : Expr} {op op' : CmpOp} {pos : Pos} {r r' : R2} {g g' : Dt → Dt → Mem → Option (Dt × Mem)} {ma mb mc : EM} (ho : OpR X (compareOp op) r) (ho' : OpR X (compareOp op') r') (hg : R2Ok X.K X.w r g) (hg' : R2Ok X.K X.w r' g') (ha : RE X a ma) (hb : RE X b mb) (hc : RE X c mc)
    (hm : lastMarks [op, op'] [b, c] = false := by with_unfolding_all rfl) : RT X (.Compare a [op, op'] [b, c] pos) (blT (chainE g g' ma mb mc)) := pt_weak (pt_chain ho ho' ha hb hc hm) (blT_ok (chainE_ok hg hg'))
/-! ### dict comprehensions: keys ints or texts -/
def kD : Key → Dt
  | .inl i => .int i
  | .inr x => .str x
def kN : Key → NestedKey
  | .inl i => .num i
  | .inr x => .text x
def dK : Dt → Option Key
  | .int i => some (.inl i)
  | .str x => some (.inr x)
  | _ => none
theorem dK_some {d : Dt} {k : Key} (h : dK d = some k) : d = kD k := by
  cases d <;> simp [dK] at h <;> subst h <;> rfl
theorem kN_inj {a b : Key} (h : kN a = kN b) : a = b := by
  cases a <;> cases b <;> simp [kN] at h <;> rw [h]
theorem keyN_kD (k : Key) : keyN (kD k) = some (kN k) := by cases k <;> rfl
noncomputable def dcL (gd : Mem → Prop) (t : Tgt) (c : TM) (ek ev : EM) (e0 : Sl) : List Dt → List Dt → List Dt → Mem → Option (List Dt × List Dt × Mem)
  | [], ks, vs, M => open Classical in if gd M then some (ks, vs, M) else none
  | d :: ds, ks, vs, M => open Classical in if gd M then (match t.m d e0 with
    | none => none
    | some e1 => thn1 (c e1 M) fun b M2 => if b = true then thn1 (ek e1 M2) fun y M3 => thn1 (ev e1 M3) fun z M4 => (match dK y with
        | some k => if ks.length < sizeLine then dcL gd t c ek ev e0 ds (putD ks vs (kN k) y z).1 (putD ks vs (kN k) y z).2 M4 else none
        | none => none) else dcL gd t c ek ev e0 ds ks vs M2) else none
noncomputable def dcE (it : IM) (t : Tgt) (c : TM) (ek ev : EM) (vs : List Nat) : EM := fun e M => thn1 (it e M) fun src M1 => match dcL src.gd t c ek ev (wipeS e vs) src.its [] [] M1 with
  | some (ks, us, M2) => some (.ref M2.length, M2 ++ [some (.dic ks us)])
  | none => none
/-- a dict of HandS as data -/
structure KvD (K : PySem.W.Frag) (W : World) (w : Ws) (kvs : List (Key × V)) (ks vs : List Dt) : Prop where
  k : ks = kvs.map fun p => kD p.1
  v : Dvs K W w (kvs.map (·.2)) vs
  nd : (kvs.map (·.1)).Nodup
theorem ixK_map {ks : List Key} {k : Key} : ixK (kN k) (ks.map kN) = ks.findIdx? fun m => decide (m = k) := by
  unfold ixK
  induction ks with
  | nil => rfl
  | cons m ks ih =>
    rw [List.map_cons, List.findIdx?_cons, List.findIdx?_cons, ih]
    by_cases e : m = k
    · rw [decide_eq_true e, decide_eq_true (by rw [e])]
    · rw [decide_eq_false e, decide_eq_false fun z => e (kN_inj z)]
theorem toKeys_kD : ∀ ks : List Key, toKeys (ks.map kD) = some (ks.map kN)
  | [] => rfl
  | k :: ks => by
    rw [List.map_cons, List.map_cons, toKeys, toKeys_kD ks]
    cases k <;> rfl
theorem putK_data {w : Ws} {kvs : List (Key × V)} {ks vs : List Dt} {k : Key} {z : V} {d : Dt} (h : KvD K W w kvs ks vs) (r : Dv K W w z d) : KvD K W w (putK kvs k z) (putD ks vs (kN k) (kD k) d).1 (putD ks vs (kN k) (kD k) d).2 := by
  have hix : ixD' ks (kN k) = (kvs.map (·.1)).findIdx? fun m => decide (m = k) := by
    unfold ixD'
    rw [h.k, show (kvs.map fun p => kD p.1) = (kvs.map (·.1)).map kD by rw [List.map_map]; rfl, toKeys_kD, Option.bind_some, ixK_map]
  unfold putD putK
  rw [hix]
  by_cases hk : (kvs.any fun kv => decide (kv.1 = k)) = true
  · rw [if_pos hk]
    obtain ⟨p, hp, he⟩ := List.any_eq_true.mp hk
    have he := of_decide_eq_true he
    obtain ⟨j, hj⟩ : ∃ j, (kvs.map (·.1)).findIdx? (fun m => decide (m = k)) = some j := by
      cases e : (kvs.map (·.1)).findIdx? (fun m => decide (m = k)) with
      | some j => exact ⟨j, rfl⟩
      | none =>
        rw [List.findIdx?_eq_none_iff] at e
        have := e p.1 (List.mem_map_of_mem hp)
        rw [he] at this
        simp at this
    rw [hj]
    obtain ⟨hjl, hje, _⟩ := List.findIdx?_eq_some_iff_getElem.mp hj
    have hje : (kvs.map (·.1))[j] = k := by simpa using hje
    have ej : kvs.map (fun kv => if kv.1 = k then (kv.1, z) else kv) = kvs.set j (k, z) := by
      refine List.ext_getElem? fun i => ?_
      rw [List.getElem?_map]
      by_cases e : j = i
      · subst e
        have hl : j < kvs.length := by simpa using hjl
        rw [List.getElem?_set_self hl, List.getElem?_eq_getElem hl, Option.map_some]
        have : (kvs[j]).1 = k := by simpa using hje
        rw [if_pos this, this]
      · rw [List.getElem?_set_ne e]
        cases hi : kvs[i]? with
        | none => rfl
        | some q =>
          rw [Option.map_some]
          have hne : q.1 ≠ k := fun z => by
            have h1 : (kvs.map (·.1))[i]? = some k := by rw [List.getElem?_map, hi, ← z]; rfl
            have h2 : (kvs.map (·.1))[j]? = some k := by rw [List.getElem?_eq_getElem hjl, hje]
            exact e ((List.getElem?_inj hjl h.nd).mp (h2.trans h1.symm))
          rw [if_neg hne]
    rw [ej]
    have hl : j < kvs.length := by simpa using hjl
    have km : (kvs.set j (k, z)).map (·.1) = kvs.map (·.1) := by
      rw [List.map_set]
      refine List.ext_getElem? fun i => ?_
      by_cases e : j = i
      · subst e
        rw [List.getElem?_set_self hjl, List.getElem?_eq_getElem hjl, hje]
      · rw [List.getElem?_set_ne e]
    refine ⟨?_, ?_, by rw [km]; exact h.nd⟩
    · rw [h.k, show ((kvs.set j (k, z)).map fun p => kD p.1) = ((kvs.set j (k, z)).map (·.1)).map kD by rw [List.map_map]; rfl, km, List.map_map]
      rfl
    · rw [List.map_set]
      exact h.v.set r j
  · rw [if_neg hk]
    have e : (kvs.map (·.1)).findIdx? (fun m => decide (m = k)) = none := by
      rw [List.findIdx?_eq_none_iff]
      intro m hm
      obtain ⟨p, hp, rfl⟩ := List.mem_map.mp hm
      rw [decide_eq_false_iff_not]
      exact fun z => hk (List.any_eq_true.mpr ⟨p, hp, decide_eq_true z⟩)
    rw [e]
    refine ⟨by rw [h.k, List.map_append]; rfl, by rw [List.map_append]; exact h.v.append (.one r), ?_⟩
    rw [List.map_append, List.nodup_append]
    refine ⟨h.nd, by simp, fun a ha b hb => ?_⟩
    have hb : b = k := by simpa using hb
    subst hb
    rintro rfl
    obtain ⟨p, hp, he⟩ := List.mem_map.mp ha
    exact hk (List.any_eq_true.mpr ⟨p, hp, decide_eq_true he⟩)
/-- the library's dict as its raw object -/
theorem raw_ofK {P : Program} {h : Heap} {p : Addr} {rs : List (Key × Value)} {xs : List Key} {ys : List V} (d : h.DictOf (mixKind P W) p rs) (hk : rs.map (·.1) = xs) (hv : Vals ys (rs.map (·.2))) (nd : xs.Nodup) (hz : xs.length ≤ sizeLine) (sm : (p == sysModules) = false) :
    ∃ o es ep, h.get? p = some o ∧ RawD p o es ep (xs.map kV) ys ∧ KeysAre W (xs.map kD) es := by
  obtain ⟨o, es, ep, ho, ex, hd, ko, pr, _⟩ := d
  have hkeys : ∀ e ∈ es.toList, ∃ k, keyIs k e.key = true ∧ e.hash = keyH W k := fun e he => ko e (Array.mem_toList_iff.mp he)
  clear ko
  have hsz : es.size = rs.length := by
    have : ∀ {l : List DictEntry} {r : List (Key × Value)}, Pairs (mixKind P W) l r → l.length = r.length := fun q => by
      induction q with
      | nil => rfl
      | cons _ _ _ ih => simp [ih]
    rw [← Array.length_toList]
    exact this pr
  have hl : rs.length = xs.length := by rw [← hk, List.length_map]
  have main : ∀ {l : List DictEntry} {r : List (Key × Value)} {xs : List Key} {ys : List V}, (∀ e ∈ l, ∃ k, keyIs k e.key = true ∧ e.hash = keyH W k) → Pairs (mixKind P W) l r → r.map (·.1) = xs → Vals ys (r.map (·.2)) →
      Vals (xs.map kV) (l.map (·.key)) ∧ Vals ys (l.map (·.val)) ∧ l.map (·.hash) = (xs.map kN).map (·.hash W) := by
    intro l r xs ys hko q
    induction q generalizing xs ys with
    | nil =>
      intro h1 h2
      subst h1
      exact ⟨.nil, h2, rfl⟩
    | @cons e kv l r hk he hp ih =>
      intro h1 h2
      subst h1
      cases h2 with
      | cons r1 r2 =>
        obtain ⟨i1, i2, i3⟩ := ih (fun e' he' => hko e' (List.mem_cons_of_mem _ he')) rfl r2
        have hk' : keyIs kv.1 e.key = true := hk
        refine ⟨.cons (relV_key hk') i1, .cons (by show RelV _ e.val; rw [he]; exact r1) i2, ?_⟩
        rw [List.map_cons, List.map_cons, List.map_cons, List.map_cons, i3]
        obtain ⟨k, k1, k2⟩ := hko e List.mem_cons_self
        have : k = kv.1 := (mixKind P W).inj _ _ _ k1 hk'
        subst this
        rw [k2]
        cases kv.1 <;> rfl
  obtain ⟨m1, m2, m3⟩ := main hkeys pr hk hv
  refine ⟨o, es, ep, ho, ⟨ex, hd, m1, m2, by omega, sm⟩, xs.map kN, toKeys_kD xs, ?_, fun n hn => ?_, m3⟩
  · rw [List.nodup_iff_pairwise_ne] at nd ⊢
    rw [List.pairwise_map]
    exact nd.imp fun h e => h (kN_inj e)
  · obtain ⟨x, _, rfl⟩ := List.mem_map.mp hn
    cases x <;> exact Nat.zero_le _
theorem key_dv {w : Ws} (k : Key) : Dv K W w (kV k) (kD k) := by
  cases k with
  | inl i => exact .int i
  | inr x => exact .str x
theorem kvs_dvs {w : Ws} : ∀ kvs : List (Key × V), Dvs K W w ((kvs.map (·.1)).map kV) (kvs.map fun p => kD p.1)
  | [] => .nil
  | p :: kvs => .cons (key_dv p.1) (kvs_dvs kvs)
/-- what a dict comprehension has made -/
def DcEnd (K : PySem.W.Frag) (W : World) (w : Ws) (d : Dt) (M' : Mem) (Q : VK) : VK := fun v H' => ∃ D w1 w2 kvs ks us, v = .ref D ∧ w2.H = H' ∧ Ok K W w1 ∧ Ext w w1 ∧ w1.H D = none ∧ Ok K W w2 ∧ D ∈ w2.ex ∧ Ext w1 w2 ∧ w2.H D = some (.dK kvs) ∧ KvD K W w2 kvs ks us ∧
  d = .ref w2.M.length ∧ M' = w2.M ++ [some (.dic ks us)] ∧ Fin1 K W w d M' Q
theorem dc_read {mi : IM} {t : Tgt} {mc : TM} {mk mv : EM} {vs : List Nat} (hv : ∀ i ∈ t.slots, i ∈ vs) {σ : L2.St} {H : Hp} {Q : VK} (q : tE K W (dcE mi t mc mk mv vs) σ H Q) :
    ∃ w d M', w.H = H ∧ tDc (tI K W mi) (t.g K) (tT K W mc) (tE K W mk) (tE K W mv) vs σ H (DcEnd K W w d M' Q) := by
  obtain ⟨w, sl, d, M', rfl, ok, er, hm, f⟩ := q
  obtain ⟨src, M1, h1, hm⟩ := thn1_eq hm
  split at hm
  · rename_i ks0 us0 M2 h2
    simp only [Option.some.injEq, Prod.mk.injEq] at hm
    obtain ⟨rfl, rfl⟩ := hm
    refine ⟨w, .ref M2.length, M2 ++ [some (.dic ks0 us0)], rfl, w, sl, src, M1, rfl, ok, er, h1, fun w1 J hM1 ok1 x1 y => ?_⟩
    intro D hD
    refine ⟨fun i m H => m = src.its.length - i ∧ i ≤ src.its.length ∧ ∃ w2 kvs ks us, w2.H = H ∧ Ok K W w2 ∧ D ∈ w2.ex ∧ Ext w1 w2 ∧ H D = some (.dK kvs) ∧ KvD K W w2 kvs ks us ∧ dcL src.gd t mc mk mv (wipeS sl vs) (src.its.drop i) ks us w2.M = some (ks0, us0, M2),
      ⟨src.its.length, by simp, Nat.zero_le _, w1.hide D (.dK []), [], [], [], rfl, ok1.hide hD, List.mem_cons_self, Ext.hide ok1 hD, upd_same, ⟨rfl, .nil, List.nodup_nil⟩, by show dcL src.gd t mc mk mv (wipeS sl vs) src.its [] [] w1.M = _; rw [hM1]; exact h2⟩, ?_⟩
    rintro i m H2 ⟨rfl, hil, w2, kvs, ks, us, rfl, ok2, hDx, x2, hDl, kd, hl⟩
    by_cases hlt : i < src.its.length
    · rw [List.drop_eq_getElem_cons hlt] at hl
      unfold dcL at hl
      split at hl
      · rename_i hgd
        obtain ⟨y1, _⟩ := y i w2 ok2 x2 hgd
        obtain ⟨hgo, hy⟩ := y1 _ (List.getElem?_eq_getElem hlt)
        refine .inr ⟨hgo, fun H' => i + 1 ≤ src.its.length ∧ ∃ w3 kvs ks us, w3.H = H' ∧ Ok K W w3 ∧ D ∈ w3.ex ∧ Ext w1 w3 ∧ H' D = some (.dK kvs) ∧ KvD K W w3 kvs ks us ∧ dcL src.gd t mc mk mv (wipeS sl vs) (src.its.drop (i + 1)) ks us w3.M = some (ks0, us0, M2),
          fun H' ⟨h, r⟩ => ⟨src.its.length - (i + 1), by omega, rfl, h, r⟩, fun v H' hv' => ?_⟩
        obtain ⟨w3, rfl, hM3, ok3, x3, rv⟩ := hy v H' hv'
        split at hl
        · cases hl
        · rename_i e4 hg4
          have er3 : EnvR K W w3 (L2.wipe σ vs) (wipeS sl vs) := (er.mono ((x1.trans x2).trans x3)).wipe vs
          refine Tgt.ok (σ0 := σ) hv rv er3 ?_ hg4 fun σ4 er4 hw4 => ⟨hw4, ?_⟩
          · refine List.ext_getElem? fun j => ?_
            rw [wipe_get, wipe_get, wipe_length]
            split
            · rfl
            · rfl
          · obtain ⟨b, M5, hc5, hl⟩ := thn1_eq hl
            refine ⟨w3, e4, b, M5, rfl, ok3, er4, by rw [hM3]; exact hc5, fun w5 hM5 ok5 x5 => ?_⟩
            have x15 := (x2.trans x3).trans x5
            have hD5 : w5.H D = some (.dK kvs) := by
              rw [x5.hid D (x3.exm D hDx), x3.hid D hDx]
              exact hDl
            have hDx5 : D ∈ w5.ex := x5.exm D (x3.exm D hDx)
            have kd5 : KvD K W w5 kvs ks us := ⟨kd.k, (kd.v.mono x3).mono x5, kd.nd⟩
            cases b with
            | false =>
              simp only [Bool.false_eq_true, if_false] at hl ⊢
              exact ⟨hlt, w5, kvs, ks, us, rfl, ok5, hDx5, x15, hD5, kd5, by rw [hM5]; exact hl⟩
            | true =>
              simp only [if_true] at hl ⊢
              obtain ⟨yk, M6, hk6, hl⟩ := thn1_eq hl
              obtain ⟨yv, M7, hv7, hl⟩ := thn1_eq hl
              split at hl
              · rename_i k hkk
                split at hl
                · rename_i hz
                  have ek := dK_some hkk
                  subst ek
                  refine ⟨w5, e4, kD k, M6, rfl, ok5, er4.mono x5, by rw [hM5]; exact hk6, fun w6 z6 hM6 ok6 x6 rz6 => ?_⟩
                  refine ⟨w6, e4, yv, M7, rfl, ok6, (er4.mono x5).mono x6, by rw [hM6]; exact hv7, fun w7 z7 hM7 ok7 x7 rz7 => ?_⟩
                  have hDx7 : D ∈ w7.ex := x7.exm D (x6.exm D hDx5)
                  have hD7 : w7.H D = some (.dK kvs) := by
                    rw [x7.hid D (x6.exm D hDx5), x6.hid D hDx5]
                    exact hD5
                  have kd7 : KvD K W w7 kvs ks us := ⟨kd5.k, (kd5.v.mono x6).mono x7, kd5.nd⟩
                  have e0 : Ext0 w7 (w7.upd D (.dK (putK kvs k z7))) := Ext0.updM hDx7 hD7 True.intro
                  have pd := putK_data (k := k) kd7 rz7
                  refine ⟨kvs, k, ?_, hD7, by rw [kd7.k, List.length_map] at hz; exact hz, hlt, w7.upd D (.dK (putK kvs k z7)), putK kvs k z7, (putD ks us (kN k) (kD k) yv).1, (putD ks us (kN k) (kD k) yv).2, rfl, ok7.updM hDx7 hD7 True.intro, hDx7, Ext.upd ok1 ((x15.trans x6).trans x7) hD, upd_same, ⟨pd.k, Dvs.mono0 e0 _ _ pd.v, pd.nd⟩, ?_⟩
                  · cases k with
                    | inl j => cases rz6; rfl
                    | inr j => cases rz6; rfl
                  · show dcL src.gd t mc mk mv (wipeS sl vs) (src.its.drop (i + 1)) _ _ w7.M = _
                    rw [hM7]
                    exact hl
                · cases hl
              · cases hl
      · cases hl
    · have e : i = src.its.length := by omega
      rw [List.drop_eq_nil_of_le (by omega)] at hl
      unfold dcL at hl
      split at hl
      · rename_i hgd
        simp only [Option.some.injEq, Prod.mk.injEq] at hl
        obtain ⟨rfl, rfl, hM⟩ := hl
        obtain ⟨_, y2⟩ := y i w2 ok2 x2 hgd
        exact .inl ⟨y2 (by omega), D, w1, w2, kvs, ks, us, rfl, rfl, ok1, x1, hD, ok2, hDx, x2, hDl, kd, by rw [hM], by rw [hM], f⟩
      · cases hl
  · cases hm
theorem re_dc {kx vx tg iter : Expr} {ifs : List Expr} {scope : Scope} {own : List (Str × Nat)} {pos : Pos} {mi : IM} {t : Tgt} {mc : TM} {mk mv : EM} (hc : X.calm = true) (hN : X.N.Nodup) (hi : RI X tg iter mi) (ok : BlkOk X.N X.env.scope scope own)
    (hg : ∀ (s : Shared) (H : Hp) (C : Addr) (cl : List (Str × Addr)) (fp : List Addr), PG (X.blk s H scope (compEnvC scope cl C X.env) fp) tg (t.g X.K)) (ht : ∀ (s : Shared) (H : Hp) (C : Addr) (cl : List (Str × Addr)) (fp : List Addr), RTs (X.blk s H scope (compEnvC scope cl C X.env) fp) ifs mc)
    (hk : ∀ (s : Shared) (H : Hp) (C : Addr) (cl : List (Str × Addr)) (fp : List Addr), RE (X.blk s H scope (compEnvC scope cl C X.env) fp) kx mk)
    (he : ∀ (s : Shared) (H : Hp) (C : Addr) (cl : List (Str × Addr)) (fp : List Addr), RE (X.blk s H scope (compEnvC scope cl C X.env) fp) vx mv) (hv : ∀ i ∈ t.slots, i ∈ own.map (·.2)) (hs : ∀ x, foldedSetIterable iter X.env x = pure x := by intro _; rfl) :
    RE X (.DictComp kx vx [⟨tg, iter, ifs, 0⟩] scope pos) (dcE mi t mc mk mv (own.map (·.2))) := by
  refine ⟨fun pins s σ H Q I q => ?_⟩
  obtain ⟨w, d, M', rfl, q2⟩ := dc_read hv q
  refine thn ((pe_dc hc hN hi ok hg ht hk he hs).run pins s σ w.H _ I q2) fun u s1 ⟨v, H1, I1, rv, D, w1, w2, kvs, ks, us, ev, eH, ok1, x1, hD, ok2, hDx, x2, hDl, kd, ed, eM, f⟩ => ?_
  subst ev eH
  obtain ⟨z, hs', vs0, rel, dd⟩ := dk_of I1.hok hDl
  have rk := rel.keys
  have rvl : Vals (kvs.map (·.2)) (vs0.map (·.2)) := by
    clear dd rk hDl kd z
    induction rel with
    | nil => exact .nil
    | cons h _ ih => exact .cons h.2 ih
  obtain ⟨o, es, ep, ho, rd, ka⟩ := raw_ofK dd rk.symm rvl kd.nd (by rw [List.length_map]; exact z) hs'
  have mu : Mut (w2.H D) := by rw [hDl]; exact True.intro
  have I3 := d_write (t' := s1.toks) (ob := RawIs D o) I1 mu (Heap.SameBut.refl D s1.heap) ⟨o, ho⟩ (new_raw ho)
  have hsub : ∀ a ∈ w1.ex, a ∈ w2.ex := fun a ha => x2.exm a ha
  have e0 := Ext0.bare ok2 (o := RawIs D o) (c := .dic ks us) (ex := w1.ex) hDx hDl True.intro hsub
  have d1 : Dvs X.K X.w w2 ((kvs.map (·.1)).map kV) ks := by
    rw [kd.k]
    exact kvs_dvs kvs
  have ek : ks = (kvs.map (·.1)).map kD := by rw [kd.k, List.map_map]; rfl
  have ok3 := ok2.bare (o := RawIs D o) (c := .dic ks us) hDx hDl True.intro hsub (ok1.exf hD) ⟨o, es, ep, _, _, upd_same, rd, by rw [ek]; exact ka, Dvs.mono0 e0 _ _ d1, Dvs.mono0 e0 _ _ kd.v⟩
  refine ⟨.ref D, _, I3, rv, f (w2.bare D (RawIs D o) (.dic ks us) w1.ex) _ eM.symm ok3 (x1.trans (Ext.bare ok1 ok2 x2 hD)) ?_⟩
  rw [ed]
  exact bare_ref ok2
end
end DL
/-! The data layer, part o: more that is walked; constants of the top. -/
namespace DL
open PySem PySem.Spec PyProof.Rows L2

theorem plus_len {m : AM} {n : Nat} (h : ∀ sl M ds M', m sl M = some (ds, M') → ds.length = n) : ∀ sl M ds M', m sl M = some (ds, M') → ds.length + 1 = n + 1 := fun sl M ds M' e => congrArg (· + 1) (h sl M ds M' e)
section
variable {X : Cx} {K : PySem.W.Frag} {W : World}
/-! ### reversed(range(n)) -/
theorem yields_down {w0 : Ws} {lo c : Int} {n : Nat} : Yields K W (Itc lo c n) ⟨(List.range n).map fun i => .int (lo + (i : Nat) * c), fun _ => True⟩ w0 := by
  intro i w ok x hg
  refine ⟨fun d hd => ?_, fun hl => ?_⟩
  · rw [List.getElem?_map] at hd
    by_cases hi : i < n
    · rw [List.getElem?_range hi] at hd
      cases hd
      refine ⟨hi, fun v H' hv => ?_⟩
      obtain ⟨rfl, rfl⟩ := hv
      exact ⟨w, rfl, rfl, ok, Ext.refl w, .int _⟩
    · rw [List.getElem?_eq_none (by simpa using hi)] at hd
      cases hd
  · show n ≤ i
    simpa using hl
theorem smallRev_of {j : Int} (h1 : -(2 ^ 61) ≤ j) (h2 : j < 2 ^ 61) : PySem.Builtin.Range.smallRev 0 j 1 = true := by
  have e : PySem.Builtin.Range.rangeSize 0 j 1 = (j.toNat : Int) := by
    have := PyProof.Rows.rangeSize_nat 0 j
    simpa using this
  unfold PySem.Builtin.Range.smallRev
  rw [e]
  simp only [PySem.Builtin.Range.rangeFitsLong, Bool.and_eq_true, decide_eq_true_eq]
  omega
def revJ : Dt → Option Src
  | .int j => if -(2 ^ 61) ≤ j ∧ j < 2 ^ 61 then some ⟨(List.range j.toNat).map fun i => .int ((j.toNat : Int) - 1 - (i : Nat)), fun _ => True⟩ else none
  | _ => none
def revI (m : AM) : IM := fun e M => thn1 (m e M) fun ds M1 => pur (match ds with | [d] => revJ d | _ => none) M1
theorem revJ_eq {d : Dt} {src : Src} (h : revJ d = some src) : ∃ j : Int, d = .int j ∧ -(2 ^ 61) ≤ j ∧ j < 2 ^ 61 ∧ src = ⟨(List.range j.toNat).map fun i => .int ((j.toNat : Int) - 1 - (i : Nat)), fun _ => True⟩ := by
  cases d with
  | int j =>
    simp only [revJ] at h
    split at h
    · rename_i hj
      cases h
      exact ⟨j, rfl, hj.1, hj.2, rfl⟩
    · cases h
  | _ => cases h
theorem one_d {ds : List Dt} (h : ds.length = 1) : ∃ d, ds = [d] := by
  match ds, h with
  | [d], _ => exact ⟨d, rfl⟩
theorem ri_rev1 {tg a : Expr} {p p2 pos pos2 : Pos} {m : AM} (hg2 : Gl X "reversed") (hm2 : X.mg "reversed" = none) (hg : Gl X "range") (hm : X.mg "range" = none) (ha : RA X [a] m) (hn : ∀ sl M ds M', m sl M = some (ds, M') → ds.length = 1)
    (hs : starEach [a] X.env = [(false, eval a X.env)] := by rfl) (hs2 : starEach [.Call (.Name "range" p) [a] [] pos] X.env = [(false, eval (.Call (.Name "range" p) [a] [] pos) X.env)] := by rfl) : RI X tg (.Call (.Name "reversed" p2) [.Call (.Name "range" p) [a] [] pos] [] pos2) (revI m) := by
  refine ⟨fun pins s σ H R I q => ?_⟩
  obtain ⟨w, sl, src, M', rfl, ok, er, hmm, f⟩ := q
  obtain ⟨ds, M1, h1, hmm⟩ := thn1_eq hmm
  obtain ⟨rfl, hm'⟩ := pur_eq hmm
  obtain ⟨d, rfl⟩ := one_d (hn _ _ _ _ h1)
  obtain ⟨j, rfl, hj1, hj2, rfl⟩ := revJ_eq hm'
  refine Call_ (ld_blt I hg2 hm2 PyProof.Rows.boot_reversed (PyProof.Rows.callWith_type1 (args_cons ?_ hs2) hs2 rfl))
  refine Call_ (ld_blt I hg hm boot_range (PyProof.Rows.callWith_type1 (thn (ha.run pos pins s σ _ (fun vs H1 => ∃ w1, w1.H = H1 ∧ w1.M = M' ∧ Ok X.K X.w w1 ∧ Ext w w1 ∧ Dvs X.K X.w w1 vs [.int j]) I ⟨w, sl, [.int j], _, rfl, ok, er, h1, fun w1 vs hM1 ok1 x1 r => ⟨w1, rfl, hM1, ok1, x1, r⟩⟩) fun us s1 ⟨vs, H1, I1, r1, w1, e1, hM1, ok1, x1, rv⟩ => ?_) hs rfl))
  subst e1
  obtain ⟨x, rfl, rx⟩ := one_arg rv
  cases rx
  obtain ⟨u, rfl, t, rfl⟩ := r1.one
  refine call_range_1 (args_nil ?_)
  refine reversed_range (n := j.toNat) (IsRange.new ..) (smallRev_of hj1 hj2) (by have := PyProof.Rows.rangeSize_nat 0 j; simpa using this) fun h' hi hz hk => ?_
  have e0 : (0 : Int) + ((j.toNat : Int) - 1) * 1 = (j.toNat : Int) - 1 := by omega
  rw [e0] at hi
  refine wpAny_pyIter_rangeiter hi ?_
  have yd : Yields X.K X.w (Itc ((j.toNat : Int) - 1) (-1) j.toNat) ⟨(List.range j.toNat).map fun i => .int ((j.toNat : Int) - 1 - (i : Nat)), fun _ => True⟩ w1 := by
    have e1 : (fun i : Nat => Dt.int ((j.toNat : Int) - 1 - (i : Nat))) = fun i => .int ((j.toNat : Int) - 1 + (i : Nat) * (-1)) := funext fun i => by congr 1; omega
    rw [e1]
    exact yields_down
  refine ⟨_, [_], _, _, w1.H, rfl, I1.kept fun b o e => hk b o (Heap.get?_push_of_some _ e), turn_rangeC _ _ (-1) j.toNat, range_st hi, fun b hb => ?_, f w1 _ hM1 ok1 x1 yd⟩
  have eb := List.mem_singleton.mp hb
  subst eb
  have hle : s1.heap.objs.size ≤ (s1.heap.push { cls := .type "range", data := .fields #[.int 0 s1.toks, .int j t, .int 1 (s1.toks + 1)] }).objs.size := by rw [Heap.size_push]; exact Nat.le_succ _
  exact I1.fpOk hle (I1.hok.fresh hle)
/-- the list a value names, as it stands later -/
def LAt (K : PySem.W.Frag) (W : World) (w1 : Ws) (v : V) (src : Src) : Prop := ∃ a, v = .ref a ∧ (∃ xs, SqL K w1.H a xs) ∧ ∀ w2, Ok K W w2 → Ext w1 w2 → src.gd w2.M → ∃ xs, SqL K w2.H a xs ∧ Dvs K W w2 xs src.its
def lsrc (M : Mem) : Dt → Option Src
  | .lst ds => some ⟨ds, fun _ => True⟩
  | .lsk ds => some ⟨ds, fun _ => True⟩
  | .ref i => match M[i]? with
    | some (some (.lst ds)) => some ⟨ds, fun M => M[i]? = some (some (.lst ds))⟩
    | _ => none
  | _ => none
theorem lat_of {w1 : Ws} {v : V} {d : Dt} {src : Src} (ok1 : Ok K W w1) (r : Dv K W w1 v d) (h : lsrc w1.M d = some src) : LAt K W w1 v src := by
  cases d with
  | lst ds =>
    simp only [lsrc, Option.some.injEq] at h
    subst h
    cases r with
    | @lst a xs _ hs n rs => exact ⟨_, rfl, ⟨_, SqL.of hs⟩, fun w2 ok2 x2 _ => ⟨xs, SqL.of (x2.frz _ _ hs n).1, rs.mono x2⟩⟩
  | lsk ds =>
    simp only [lsrc, Option.some.injEq] at h
    subst h
    cases r with
    | @lstK a xs _ hs rs => exact ⟨_, rfl, ⟨_, hs.sq⟩, fun w2 ok2 x2 _ => ⟨xs, (x2.imL hs).sq, rs.mono x2⟩⟩
  | ref i =>
    simp only [lsrc] at h
    split at h
    · rename_i ds hc
      simp only [Option.some.injEq] at h
      subst h
      cases r with
      | @ref _ a hr =>
        obtain ⟨xs, e, q⟩ := ok1.cells _ _ _ hr hc
        refine ⟨_, rfl, ⟨_, SqL.of e⟩, fun w2 ok2 x2 hg => ?_⟩
        obtain ⟨xs2, e2, q2⟩ := ok2.cells _ _ _ (x2.get hr) hg
        exact ⟨xs2, SqL.of e2, q2⟩
    · cases h
  | _ => cases h
/-! ### enumerate(list) -/
def enumD : Nat → List Dt → List Dt
  | _, [] => []
  | k, d :: ds => .tup [.int k, d] :: enumD (k + 1) ds
theorem enumD_len : ∀ (ds : List Dt) (k : Nat), (enumD k ds).length = ds.length
  | [], _ => rfl
  | d :: ds, k => congrArg (· + 1) (enumD_len ds (k + 1))
theorem enumD_get : ∀ (ds : List Dt) (k i : Nat) {d : Dt}, (enumD k ds)[i]? = some d → ∃ x, ds[i]? = some x ∧ d = .tup [.int ((k + i : Nat) : Int), x]
  | [], _, _, _, h => by cases h
  | x :: ds, k, 0, d, h => by
    simp only [enumD, List.getElem?_cons_zero, Option.some.injEq] at h
    exact ⟨x, rfl, h.symm⟩
  | x :: ds, k, i + 1, d, h => by
    simp only [enumD, List.getElem?_cons_succ] at h
    obtain ⟨y, e, q⟩ := enumD_get ds (k + 1) i h
    exact ⟨y, by simpa using e, by rw [q]; congr 3; simp; omega⟩
def enumI (m : AM) : IM := fun e M => thn1 (m e M) fun ds M1 => pur (match ds with | [d] => (lsrc M1 d).map fun s => ⟨enumD 0 s.its, s.gd⟩ | _ => none) M1
theorem yields_enum {w0 : Ws} {a : Addr} {src : Src} (h : ∀ w, Ok K W w → Ext w0 w → src.gd w.M → ∃ xs, SqL K w.H a xs ∧ Dvs K W w xs src.its) : Yields K W (Ite K a) ⟨enumD 0 src.its, src.gd⟩ w0 := by
  intro i w ok x hg
  obtain ⟨xs, hs, r⟩ := h w ok x hg
  refine ⟨fun d hd => ?_, fun hl => ⟨xs, hs, by rw [r.length]; rw [enumD_len] at hl; exact hl⟩⟩
  obtain ⟨dd, hdd, rfl⟩ := enumD_get _ _ _ hd
  obtain ⟨v, hv, rv⟩ := r.get hdd
  refine ⟨⟨xs, v, hs, hv⟩, fun y H' hy => ?_⟩
  obtain ⟨T, z, rfl, hT, rfl, hz⟩ := hy
  have e := hz xs hs
  rw [hv] at e; cases e
  refine ⟨w.put T (.tup [.int (i : Nat), v]), rfl, rfl, ok.put hT, Ext.put ok hT, put_tup ok hT ?_⟩
  rw [Nat.zero_add]
  exact .cons (.int _) (.cons rv .nil)
theorem ri_enum {e : Expr} {m : AM} {p pos tpos : Pos} {elts : List Expr} {kk : Nat} (hg : Gl X "enumerate") (hm : X.mg "enumerate" = none) (ha : RA X [e] m) (hn : ∀ sl M ds M', m sl M = some (ds, M') → ds.length = 1) (hs : starEach [e] X.env = [(false, eval e X.env)] := by rfl) :
    RI X (.Tuple elts kk tpos) (.Call (.Name "enumerate" p) [e] [] pos) (enumI m) := by
  refine pi_weak (pi_enum hg hm ha hs) fun σ H R q => ?_
  obtain ⟨w, sl, src, M', rfl, ok, er, hm, f⟩ := q
  obtain ⟨ds, M1, h1, hm⟩ := thn1_eq hm
  obtain ⟨rfl, hm'⟩ := pur_eq hm
  obtain ⟨d, rfl⟩ := one_d (hn _ _ _ _ h1)
  refine ⟨w, sl, _, _, rfl, ok, er, h1, fun w1 v hM1 ok1 x1 r => ?_⟩
  subst hM1
  obtain ⟨s0, hs0, rfl⟩ := Option.map_eq_some_iff.mp hm'
  obtain ⟨v, rfl, rv⟩ := one_arg r
  obtain ⟨a, rfl, ⟨xs, hq⟩, k⟩ := lat_of ok1 rv hs0
  exact ⟨a, xs, rfl, hq, f w1 _ rfl ok1 x1 (yields_enum k)⟩
end
/-! ### constants of the top -/
section
variable {K : PySem.W.Frag} {P : Params} {mg : Str → Option Value}
def CV (K : PySem.W.Frag) (P : Params) (u : Value) (d : Dt) : Prop := ∃ v, RelV v u ∧ ∀ (W : World) (w : Ws), W.params = P → Dv K W w v d
def CVs (K : PySem.W.Frag) (P : Params) (us : List Value) (ds : List Dt) : Prop := ∃ vs, Vals vs us ∧ ∀ (W : World) (w : Ws), W.params = P → Dvs K W w vs ds
def ConOk (K : PySem.W.Frag) (P : Params) (mg : Str → Option Value) (c : Str) (d : Dt) : Prop := ∃ u, mg c = some u ∧ CV K P u d
theorem cv_int {i : Int} {t : Tok} : CV K P (.int i t) (.int i) := ⟨.int i, ⟨t, rfl⟩, fun _ _ _ => .int i⟩
theorem cv_str {x : Str} {t : Tok} : CV K P (.str x t) (.str x) := ⟨.str x, ⟨t, rfl⟩, fun _ _ _ => .str x⟩
theorem cv_non : CV K P .none .non := ⟨.non, rfl, fun _ _ _ => .non⟩
theorem cv_bl {b : Bool} : CV K P (.bool b) (.bl b) := ⟨.bl b, rfl, fun _ _ _ => .bl b⟩
theorem cvs_nil : CVs K P [] [] := ⟨[], .nil, fun _ _ _ => .nil⟩
theorem cvs_cons {u : Value} {us : List Value} {d : Dt} {ds : List Dt} (h : CV K P u d) (hs : CVs K P us ds) : CVs K P (u :: us) (d :: ds) := by
  obtain ⟨v, r, k⟩ := h
  obtain ⟨vs, rs, ks⟩ := hs
  exact ⟨v :: vs, .cons r rs, fun W w e => .cons (k W w e) (ks W w e)⟩
theorem cv_tup {a : Addr} {od : Option Addr} {its : Array Value} {n : Nat} {sl : Array (Option Value)} {us : List Value} {ds : List Dt} (h : K.lookup a = some ⟨.type "tuple", od, .seq its n, sl⟩) (hu : its.toList = us) (hs : CVs K P us ds) (hz : its.size ≤ sizeLine) : CV K P (.ref a) (.tup ds) := by
  subst hu
  obtain ⟨vs, rs, ks⟩ := hs
  exact ⟨.ref a, rfl, fun W w e => .tup (.inr ⟨_, its, n, h, rfl, rfl, hz, rs⟩) (ks W w e)⟩
/-- the entries' keys are these texts -/
def KsOk (P : Params) : List DictEntry → List Str → Prop
  | [], [] => True
  | e :: es, x :: xs => (∃ t, e.key = .str x t) ∧ e.hash = PyData.keyHash P x ∧ KsOk P es xs
  | _, _ => False
theorem toKeys_str : ∀ xs : List Str, toKeys (xs.map Dt.str) = some (xs.map NestedKey.text)
  | [] => rfl
  | x :: xs => by
    rw [List.map_cons, List.map_cons]
    simp only [toKeys, toKey, toKeys_str xs]
theorem ksOk_eq {W : World} : ∀ {es : List DictEntry} {xs : List Str}, KsOk W.params es xs → es.map (·.hash) = (xs.map NestedKey.text).map (·.hash W) ∧ Vals (xs.map V.str) (es.map (·.key))
  | [], [], _ => ⟨rfl, .nil⟩
  | e :: es, x :: xs, ⟨⟨t, h1⟩, h2, h3⟩ => by
    obtain ⟨a, b⟩ := ksOk_eq h3
    refine ⟨?_, ?_⟩
    · rw [List.map_cons, List.map_cons, List.map_cons, a, h2]; rfl
    · rw [List.map_cons, List.map_cons, h1]; exact .cons ⟨t, rfl⟩ b
  | [], _ :: _, h => False.elim h
  | _ :: _, [], h => False.elim h
theorem dvs_str {W : World} {w : Ws} : ∀ xs : List Str, Dvs K W w (xs.map V.str) (xs.map Dt.str)
  | [] => .nil
  | x :: xs => .cons (.str x) (dvs_str xs)
theorem cv_dic {a : Addr} {es : Array DictEntry} {ep : Nat} {l : List DictEntry} {xs : List Str} {us : List Value} {ds : List Dt} (h : K.lookup a = some ⟨.type "dict", none, .dict es ep, #[]⟩) (hl : es.toList = l) (hk : KsOk P l xs) (hu : l.map (·.val) = us) (hs : CVs K P us ds)
    (hn : xs.Nodup) (hz : es.size ≤ sizeLine) (sm : (a == sysModules) = false) : CV K P (.ref a) (.dic (xs.map .str) ds) := by
  subst hl hu
  obtain ⟨vs, rs, ks⟩ := hs
  refine ⟨.ref a, rfl, fun W w e => ?_⟩
  subst e
  obtain ⟨h1, h2⟩ := ksOk_eq hk
  refine .dicK h ⟨⟨rfl, rfl, rfl⟩, rfl, h2, rs, hz, sm⟩ ⟨xs.map .text, toKeys_str xs, ?_, fun n hn' => ?_, h1⟩ (dvs_str xs) (ks W w rfl)
  · exact List.Pairwise.map _ (fun a b hab z => hab (NestedKey.text.inj z)) hn
  · obtain ⟨x, _, rfl⟩ := List.mem_map.mp hn'
    simp [NestedKey.depth]
theorem con_mk {h : Heap} {c : Str} {u : Value} {d : Dt} (X : K.In h) (G : h.Ns mainGlobals mg) (e : PySem.W.nsIn K mainGlobals c = some (some u)) (hv : CV K P u d) : ConOk K P mg c d := ⟨u, PySem.W.mg_of X G e, hv⟩
end
theorem re_glob {X : Cx} {c : Str} {d : Dt} {pos : Pos} (h : ConOk X.K X.w.params X.mg c d) (hg : Gl X c) (hd : (c == ("__debug__" : Str)) = false := by decide) : RE X (.Name c pos) (cE d) := by
  obtain ⟨u, hm, v, r, k⟩ := h
  exact re_con (pe_glob (v := v) hg hm r hd) fun w => k _ w rfl
/-! ### list(range(..)), tuple(range(..)) -/
def smI (a : Int) : Prop := -4194304 ≤ a ∧ a ≤ 8388608
instance {a : Int} : Decidable (smI a) := by unfold smI; infer_instance
def rgL (a b : Int) : List Dt := (List.range (b - a).toNat).map fun i => .int (a + (i : Nat))
def rgS : Dt → Dt → Option (List Dt)
  | .int a, .int b => if smI a ∧ smI b then some (rgL a b) else none
  | _, _ => none
theorem rgS_eq {d1 d2 : Dt} {ds : List Dt} (h : rgS d1 d2 = some ds) : ∃ a b, d1 = .int a ∧ d2 = .int b ∧ RgOk a b ∧ ds = rgL a b := by
  unfold rgS at h
  split at h
  · rename_i a b
    split at h
    · rename_i hs
      cases h
      obtain ⟨⟨h1, h2⟩, h3, h4⟩ := hs
      exact ⟨a, b, rfl, rfl, ⟨by omega, by omega, by omega, by omega, by omega⟩, rfl⟩
    · cases h
  · cases h
theorem dvs_rg {K : PySem.W.Frag} {W : World} {w : Ws} (a b : Int) : Dvs K W w (rgV a b) (rgL a b) := by
  unfold rgV rgL
  have : ∀ l : List Nat, Dvs K W w (l.map fun i => V.int (a + (i : Nat))) (l.map fun i => Dt.int (a + (i : Nat))) := fun l => by
    induction l with
    | nil => exact .nil
    | cons x l ih => exact .cons (.int _) ih
  exact this _
def rgE (c : List Dt → Mem → Option (Dt × Mem)) (m1 m2 : EM) : EM := fun e M => thn1 (m1 e M) fun d1 M1 => thn1 (m2 e M1) fun d2 M2 => match rgS d1 d2 with
  | some ds => c ds M2
  | none => none
def cL (ds : List Dt) (M : Mem) : Option (Dt × Mem) := some (.lst ds, M)
def cC (ds : List Dt) (M : Mem) : Option (Dt × Mem) := some (.ref M.length, M ++ [some (.lst ds)])
def cT (ds : List Dt) (M : Mem) : Option (Dt × Mem) := some (.tup ds, M)
section
variable {X : Cx} {a b : Expr} {m1 m2 : EM} {p p2 pos pos2 : Pos}
theorem rgE_run {c : List Dt → Mem → Option (Dt × Mem)} {k : List V → Addr → Hp → Hp} {σ : L2.St} {w : Ws} {sl : Sl} {d : Dt} {M' : Mem} {Q : VK} (ok : Ok X.K X.w w) (er : EnvR X.K X.w w σ sl) (hm : rgE c m1 m2 sl w.M = some (d, M')) (f : Fin1 X.K X.w w d M' Q)
    (hc : ∀ (w2 : Ws) (x y : Int), Ok X.K X.w w2 → c (rgL x y) w2.M = some (d, M') → Fin1 X.K X.w w2 d M' Q → ∀ q, w2.H q = none → Q (.ref q) (k (rgV x y) q w2.H)) :
    tE X.K X.w m1 σ w.H fun x H1 => tE X.K X.w m2 σ H1 fun y H2 => ∃ i j, x = .int i ∧ y = .int j ∧ RgOk i j ∧ ∀ q, H2 q = none → Q (.ref q) (k (rgV i j) q H2) := by
  obtain ⟨d1, M1, h1, hm⟩ := thn1_eq hm
  obtain ⟨d2, M2, h2, hm⟩ := thn1_eq hm
  refine ⟨w, sl, d1, M1, rfl, ok, er, h1, fun w1 v1 hM1 ok1 x1 r1 => ?_⟩
  refine ⟨w1, sl, d2, M2, rfl, ok1, er.mono x1, by rw [hM1]; exact h2, fun w2 v2 hM2 ok2 x2 r2 => ?_⟩
  split at hm
  · rename_i ds hd
    obtain ⟨i, j, rfl, rfl, hr, rfl⟩ := rgS_eq hd
    cases r1
    cases r2
    subst hM2
    exact ⟨i, j, rfl, rfl, hr, hc w2 i j ok2 hm (f.after (x1.trans x2))⟩
  · cases hm
theorem fin_cL {w : Ws} {i j : Int} {d : Dt} {M' : Mem} {Q : VK} (ok : Ok X.K X.w w) (e : cL (rgL i j) w.M = some (d, M')) (f : Fin1 X.K X.w w d M' Q) : ∀ q, w.H q = none → Q (.ref q) (upd w.H q (.lst (rgV i j))) := by
  cases e
  exact fin_lst ok (dvs_rg i j) f
theorem fin_cC {w : Ws} {i j : Int} {d : Dt} {M' : Mem} {Q : VK} (ok : Ok X.K X.w w) (e : cC (rgL i j) w.M = some (d, M')) (f : Fin1 X.K X.w w d M' Q) : ∀ q, w.H q = none → Q (.ref q) (upd w.H q (.lst (rgV i j))) := by
  cases e
  exact fin_cell ok (dvs_rg i j) f
theorem fin_cT {w : Ws} {i j : Int} {d : Dt} {M' : Mem} {Q : VK} (ok : Ok X.K X.w w) (e : cT (rgL i j) w.M = some (d, M')) (f : Fin1 X.K X.w w d M' Q) : ∀ q, w.H q = none → Q (.ref q) (upd w.H q (.tup (rgV i j))) := by
  cases e
  exact fin_tup ok (dvs_rg i j) f
/-- the range's expression: its bounds -/
def RRg (X : Cx) (e : Expr) (m1 m2 : EM) : Prop := PRg X e fun σ H Q => tE X.K X.w m1 σ H fun x H1 => tE X.K X.w m2 σ H1 fun y H2 => ∃ i j, x = .int i ∧ y = .int j ∧ Q i j H2
theorem rrg_2 (hg : Gl X "range") (hm : X.mg "range" = none) (ha : RE X a m1) (hb : RE X b m2) (na : starEach [a, b] X.env = (false, eval a X.env) :: starEach [b] X.env := by rfl) (nb : starEach [b] X.env = (false, eval b X.env) :: starEach [] X.env := by rfl)
    (hp : (backTo pos (starEach [b] X.env)).any (·.1) = false := by rfl) : RRg X (.Call (.Name "range" p) [a, b] [] pos) m1 m2 := fun pins s σ H Q I h => prg_2 hg hm ha hb na nb hp pins s σ H Q I h
theorem rrg_1 (hg : Gl X "range") (hm : X.mg "range" = none) (ha : RE X a m1) (na : starEach [a] X.env = (false, eval a X.env) :: starEach [] X.env := by rfl) : RRg X (.Call (.Name "range" p) [a] [] pos) (cE (.int 0)) m1 := fun pins s σ H Q I h => by
  refine prg_1 hg hm ha na pins s σ H Q I ?_
  obtain ⟨w, sl, d, M', rfl, ok, er, hc, f⟩ := h
  cases hc
  have h2 := f w (.int 0) rfl ok (Ext.refl w) (.int 0)
  obtain ⟨w2, sl2, d2, M2, e2, ok2, er2, hc2, f2⟩ := h2
  refine ⟨w2, sl2, d2, M2, e2, ok2, er2, hc2, fun w3 v hM ok3 x3 r3 => ?_⟩
  obtain ⟨i, j, ei, ej, q⟩ := f2 w3 v hM ok3 x3 r3
  cases ei
  exact ⟨j, ej, q⟩
variable {e : Expr}
theorem re_lrg (hc : X.calm = true) (hg : Gl X "list") (hm : X.mg "list" = none) (he : RRg X e m1 m2) (na : starEach [e] X.env = (false, eval e X.env) :: starEach [] X.env := by rfl) : RE X (.Call (.Name "list" p) [e] [] pos) (rgE cL m1 m2) :=
  re_of (pe_listRg hc hg hm he na) fun w σ sl d M' Q ok er hm f => rgE_run (k := fun vs q H => upd H q (.lst vs)) ok er hm f fun w2 x y ok2 e2 f2 => fin_cL ok2 e2 f2
theorem re_lrgC (hc : X.calm = true) (hg : Gl X "list") (hm : X.mg "list" = none) (he : RRg X e m1 m2) (na : starEach [e] X.env = (false, eval e X.env) :: starEach [] X.env := by rfl) : RE X (.Call (.Name "list" p) [e] [] pos) (rgE cC m1 m2) :=
  re_of (pe_listRg hc hg hm he na) fun w σ sl d M' Q ok er hm f => rgE_run (k := fun vs q H => upd H q (.lst vs)) ok er hm f fun w2 x y ok2 e2 f2 => fin_cC ok2 e2 f2
theorem re_trg (hc : X.calm = true) (hg : Gl X "tuple") (hm : X.mg "tuple" = none) (he : RRg X e m1 m2) (na : starEach [e] X.env = (false, eval e X.env) :: starEach [] X.env := by rfl) : RE X (.Call (.Name "tuple" p) [e] [] pos) (rgE cT m1 m2) :=
  re_of (pe_tupRg hc hg hm he na) fun w σ sl d M' Q ok er hm f => rgE_run (k := fun vs q H => upd H q (.tup vs)) ok er hm f fun w2 x y ok2 e2 f2 => fin_cT ok2 e2 f2
end
/-! ### a law from its plain function, whatever the classes' addresses -/
def spC {ι : Type} (K : PySem.W.Frag) (W : World) (n : Nat) (F : ι → FM) : Sp := fun vs H Q E => ∀ c : ι, spF K W n (F c) vs H Q E
theorem law_walkC {ι : Type} [Inhabited ι] {l : PySem.W.OpenLaw} {q : Program} {loose : List Str} {XP : (Str → Option Value) → Heap → Prop} {YP : World → Heap → Prop} {d : DefRec} {K : Params → PySem.W.Frag} {k : Nat} {F : ι → FM} (hn : l.most = some 63) (hdf : d.params.defaults = []) (hr : Room k callerA)
    (hF : ∀ (c : ι) (ns : List Int), ns.length ≤ 63 → ∃ M', F c [.lsk (ns.map .int)] [] = some (.bl true, M'))
    (hY : ∀ (w : World) (h : Heap), YP w h → (K w.params).In h)
    (G : ∀ (w : World) (mg : Str → Option Value) (fa : Addr) (h : Heap), (K w.params).In h → h.Ns mainGlobals mg → mg d.name = some (.ref fa) →
      ∃ fd : FuncData, (∀ (s : Shared) (u : Value), BindsTo s fd ⟨[u], []⟩ [("script", u)]) ∧ ∀ base : Heap, (K w.params).In base → base.Ns mainGlobals mg → FnOk l.prog w (K w.params) mg base CX0 k fa fd ["script"] (spC (K w.params) w 1 F)) :
    PySem.W.WalkO q loose XP YP l.row.toRowW d [] (fun f vs => PySem.call f vs) :=
  L2.walk_of (n := 63) (k := k) (x := "script") (CX := fun _ => CX0) (sp := fun w => spC (K w.params) w 1 F) hn (by decide) hdf hr hY G (fun w H a ns hl hO hS c => by
    obtain ⟨M', hm⟩ := hF c ns hl
    have hI : ImL (K w.params) H a (ns.map V.int) := by
      rcases hS with (h | h) | h
      · rcases hO a with z | ⟨o, xs, z⟩
        · rw [z] at h; cases h
        · rw [z] at h; cases h
      · exact .inl h
      · exact .inr h
    have hv : ∀ {w0 : Ws} (ns : List Int), Dvs (K w.params) w w0 (ns.map V.int) (ns.map Dt.int) := fun {w0} ns => by
      induction ns with
      | nil => exact .nil
      | cons n ns ih => exact .cons (.int n) ih
    refine ⟨⟨[], [], H, []⟩, [.lsk (ns.map .int)], .bl true, M', rfl, ⟨rfl, List.nodup_nil, (fun a h => absurd h (by simp)), (fun a h => absurd h (by simp)), fun i a c h => by simp at h⟩, .cons (.lstK hI (hv ns)) .nil, rfl, hm, fun w' v _ _ _ r => ?_⟩
    cases r
    rfl) fun _ _ _ _ _ z => z
end DL
/-! The data layer, part v: name = {..: .. for ..}. -/
namespace DL
open PySem PySem.Spec PyProof.Rows L2
section
variable {X : Cx}
theorem sw_trueD {kx vx : Expr} {gs : List Comprehension} {scope : Scope} {pos py : Pos} {y : Str} {l : Nat} {env : Env} (hk : env.scope.kind = .function) (hy : env.scope.names.lookup y = some .local) (hl : (py.line == pos.line) = true)
    (ha : (scope.names.any fun (n, k) => n == y && (k == .local || k == .cell)) = false) : swapsWith (.DictComp kx vx gs scope pos) (some (.Name y py)) l env = pure true := by
  have ky : env.kindOf y = some .local := hy
  have hb : env.blockKind = .function := by unfold Env.blockKind; rw [hk]; rfl
  unfold swapsWith
  simp only [hb, ky, ha, Expr.pos, hl]
  rfl
theorem rs_setDc {i : Nat} {y : Str} {py : Pos} {kx vx tg iter : Expr} {ifs : List Expr} {scope : Scope} {own : List (Str × Nat)} {pos spos : Pos} {mi : IM} {t : Tgt} {mc : TM} {mk mv : EM} (hc : X.calm = true) (hN : X.N.Nodup) (hyl : X.env.scope.names.lookup y = some .local)
    (hsw : swapsWith (.DictComp kx vx [⟨tg, iter, ifs, 0⟩] scope pos) (some (.Name y py)) spos.line X.env = pure true) (hi : RI X tg iter mi) (ok : BlkOk X.N X.env.scope scope own)
    (hg : ∀ (s : Shared) (H : Hp) (C : Addr) (cl : List (Str × Addr)) (fp : List Addr), PG (X.blk s H scope (compEnvC scope cl C X.env) fp) tg (t.g X.K)) (ht : ∀ (s : Shared) (H : Hp) (C : Addr) (cl : List (Str × Addr)) (fp : List Addr), RTs (X.blk s H scope (compEnvC scope cl C X.env) fp) ifs mc)
    (hk : ∀ (s : Shared) (H : Hp) (C : Addr) (cl : List (Str × Addr)) (fp : List Addr), RE (X.blk s H scope (compEnvC scope cl C X.env) fp) kx mk)
    (he : ∀ (s : Shared) (H : Hp) (C : Addr) (cl : List (Str × Addr)) (fp : List Addr), RE (X.blk s H scope (compEnvC scope cl C X.env) fp) vx mv) (hv : ∀ i ∈ t.slots, i ∈ own.map (·.2)) (hy : X.N[i]? = some y := by rfl) (hs : ∀ x, foldedSetIterable iter X.env x = pure x := by intro _; rfl) :
    RS X (.Assign [.Name y py] (.DictComp kx vx [⟨tg, iter, ifs, 0⟩] scope pos) spos) (setS i (dcE mi t mc mk mv (own.map (·.2)))) := by
  refine ⟨fun pins s σ H D I q => ?_⟩
  obtain ⟨w, sl, fl, sl', M', rfl, okw, er, hm, f⟩ := q
  obtain ⟨d, M1, h1, hm⟩ := thn1_eq hm
  cases hm
  obtain ⟨w0, d0, M0, hw0, q2⟩ := dc_read (Q := fun v H1 => D.nx (σ.set i (some v)) H1) hv ⟨w, sl, d, M', rfl, okw, er, h1, fun w1 v hM1 ok1 x1 r => f w1 hM1 ok1 x1 _ ((er.mono x1).set r i)⟩
  rw [exec_Assign_Name_used _ _ _ _ hsw]
  refine wpAny_bind (wpAny_standAt (wpAny_bind ?_))
  show wpAny _ X.A (do let _ ← comprehension (.DictComp kx vx [⟨tg, iter, ifs, 0⟩] scope pos) scope X.env (firstIterPos [⟨tg, iter, ifs, 0⟩] pos) PySem.newDict false (eval iter X.env) (some (assign (.Name y py) X.env))) _ _ s
  refine wpAny_bind (thn (dc_core (Qf := fun _ s' => SP X pins D .next s') hc hN I hi ok hg ht hk he hs q2 fun L C s' m H' I' q hn f => ?_) fun _ s' hq => wpAny_pure (wpAny_pure hq))
  show wpAny _ _ (assign (.Name y py) X.env (.ref L)) _ _ _
  refine wpAny_assign_Name (store_ok2 (v := V.ref L) I' hN hy (.inl hyl) rfl (fun s2 I2 ⟨a, sb, ha⟩ => ?_) (.inr hyl))
  obtain ⟨f0, f1, f2, f3, f4, f5⟩ := f
  have haC : C ≠ a := by
    rcases ha with z | z
    · rw [z]; exact f1
    · exact fun e => f4 y a z e.symm
  refine ⟨m, hn.sameBut sb haC, fun h3 sb3 => ?_⟩
  have I1 := I2.turned (t' := s2.toks) (fun b o hb e => (sb3.2 b hb).trans e) f0 f1 f3 f4 f5
  obtain ⟨D', w1, w2, kvs, ks, us, ev, eH, ok1, x1, hD, ok2, hDx, x2, hDl, kd, ed, eM, fq⟩ := q
  cases ev
  subst eH
  obtain ⟨z, hs', vs0, rel, dd⟩ := dk_of I1.hok hDl
  have rk := rel.keys
  have rvl : Vals (kvs.map (·.2)) (vs0.map (·.2)) := by
    clear dd rk hDl kd z
    induction rel with
    | nil => exact .nil
    | cons h _ ih => exact .cons h.2 ih
  obtain ⟨o, es, ep, ho, rd, ka⟩ := raw_ofK dd rk.symm rvl kd.nd (by rw [List.length_map]; exact z) hs'
  have mu : Mut (w2.H L) := by rw [hDl]; exact True.intro
  have I3 := d_write (t' := s2.toks) (ob := RawIs L o) I1 mu (Heap.SameBut.refl L _) ⟨o, ho⟩ (new_raw ho)
  have hsub : ∀ a ∈ w1.ex, a ∈ w2.ex := fun a ha => x2.exm a ha
  have e0 := Ext0.bare ok2 (o := RawIs L o) (c := .dic ks us) (ex := w1.ex) hDx hDl True.intro hsub
  have d1 : Dvs X.K X.w w2 ((kvs.map (·.1)).map kV) ks := by
    rw [kd.k]
    exact kvs_dvs kvs
  have ek : ks = (kvs.map (·.1)).map kD := by rw [kd.k, List.map_map]; rfl
  have ok3 := ok2.bare (o := RawIs L o) (c := .dic ks us) hDx hDl True.intro hsub (ok1.exf hD) ⟨o, es, ep, _, _, upd_same, rd, by rw [ek]; exact ka, Dvs.mono0 e0 _ _ d1, Dvs.mono0 e0 _ _ kd.v⟩
  refine ⟨_, _, I3, fq (w2.bare L (RawIs L o) (.dic ks us) w1.ex) _ eM.symm ok3 (x1.trans (Ext.bare ok1 ok2 x2 hD)) ?_⟩
  rw [ed]
  exact bare_ref ok2
end
end DL
/-! The data layer, part A: dict comprehensions whose keys are any keys. -/
namespace DL
open PySem PySem.Spec PyProof.Rows L2
noncomputable def dgL (gd : Mem → Prop) (t : Tgt) (c : TM) (ek ev : EM) (e0 : Sl) : List Dt → List Dt → List Dt → Mem → Option (List Dt × List Dt × Mem)
  | [], ks, vs, M => open Classical in if gd M then some (ks, vs, M) else none
  | d :: ds, ks, vs, M => open Classical in if gd M then (match t.m d e0 with
    | none => none
    | some e1 => thn1 (c e1 M) fun b M2 => if b = true then thn1 (ek e1 M2) fun y M3 => thn1 (ev e1 M3) fun z M4 => (match keyN y with
        | some n => if ks.length < sizeLine then dgL gd t c ek ev e0 ds (putD ks vs n y z).1 (putD ks vs n y z).2 M4 else none
        | none => none) else dgL gd t c ek ev e0 ds ks vs M2) else none
noncomputable def dgE (it : IM) (t : Tgt) (c : TM) (ek ev : EM) (vs : List Nat) : EM := fun e M => thn1 (it e M) fun src M1 => match dgL src.gd t c ek ev (wipeS e vs) src.its [] [] M1 with
  | some (ks, us, M2) => some (.ref M2.length, M2 ++ [some (.dic ks us)])
  | none => none
/-- a dict being made: its raw object is known, its keys and values are data -/
structure Mid (K : PySem.W.Frag) (W : World) (w : Ws) (D : Addr) (ks us : List Dt) (o : Obj) : Prop where
  at' : w.H D = some (RawIs D o)
  ins : ∃ es ep kx vx, RawD D o es ep kx vx ∧ KeysAre W ks es ∧ Dvs K W w kx ks ∧ Dvs K W w vx us
/-- one entry is put in -/
def PutN (K : PySem.W.Frag) (W : World) (D : Addr) (y z : V) (H : Hp) (N : Hp → Prop) : Prop := ∃ (w : Ws) (kd vd : Dt) (ks us : List Dt) (n : NestedKey) (o : Obj), w.H = H ∧ Mid K W w D ks us o ∧ Dv K W w y kd ∧ Dv K W w z vd ∧ keyN kd = some n ∧ ks.length < sizeLine ∧
  ∀ (o' : Obj), (∃ es ep kx vx, RawD D o' es ep kx vx ∧ KeysAre W (putD ks us n kd vd).1 es ∧ Dvs K W w kx (putD ks us n kd vd).1 ∧ Dvs K W w vx (putD ks us n kd vd).2) → N (upd H D (RawIs D o'))
/-- how the comprehension is walked: D the new dict -/
def tDg (K : PySem.W.Frag) (W : World) (wi : TI) (g : TG) (tt : TT) (tk tv : TE) (vs : List Nat) : TE := fun σ H Q => wi σ H fun J H1 => ∀ D o, H1 D = none → (∃ ep, RawD D o #[] ep [] []) → ∃ Z : Nat → Nat → Hp → Prop, (∃ m, Z 0 m (upd H1 D (RawIs D o))) ∧ ∀ i m H', Z i m H' →
  (J.stop i H' ∧ Q (.ref D) H') ∨ (J.go i H' ∧ ∃ Nx : Hp → Prop, (∀ H2, Nx H2 → ∃ m', m' < m ∧ Z (i + 1) m' H2) ∧ ∀ x H2, J.yld i H' x H2 → g x (wipe σ vs) H2 fun σ3 H3 => wipe σ3 vs = wipe σ vs ∧ tt σ3 H3 fun b H4 =>
    if b = true then tk σ3 H4 fun y H5 => tv σ3 H5 fun z H6 => PutN K W D y z H6 Nx else Nx H4)
section
variable {X : Cx}
theorem put_run {k : Nat} (hr : Room k X.A) {pins : List (Addr × Obj)} {σ : L2.St} {H : Hp} {s : Shared} {E : Value → Shared → Prop} {D : Addr} {y z : V} {u r : Value} {N : Hp → Prop} {Q : Unit → Shared → Prop} (I : Inv X pins σ H s) (p : PutN X.K X.w D y z H N) (ry : RelV y u) (rz : RelV z r)
    (h : ∀ s' H', Inv X pins σ H' s' → N H' → Q () s') : wpAny (model X.prog X.w) X.A (dictSet D u r) Q E s := by
  obtain ⟨w, kd, vd, ks, us, n, o, rfl, ⟨hat, es, ep, kx, vx, rd, kk, d1, d2⟩, dy, dz, hn, hz, nx⟩ := p
  obtain ⟨hn1, hn2⟩ := keyN_some hn
  have R : DRep X w D ks us o es ep kx vx := ⟨.inl hat, rd, kk, d1, d2⟩
  obtain ⟨ns, hns, R'⟩ := R.dat I
  have hsz : es.size < sizeLine := by rw [R.len]; exact hz
  have hu := hr.units
  refine set_core R' (by omega) (Dv.nested I kd y n u dy hn1 ry) hn2 (Nat.le_of_lt hsz) fun h' o' ep' p => ?_
  obtain ⟨kx', vx', r', kk', e1, e2⟩ := raw_put R hns hn ry rz dy dz hsz p.ex p.hd
  exact h _ _ (Inv.rawUpd I hat p.same p.ho) (nx o' ⟨_, ep', kx', vx', r', kk', e1, e2⟩)
theorem dg_core {k : Nat} (hr : Room k X.A) {pins : List (Addr × Obj)} {s : Shared} {σ : L2.St} {H : Hp} {Q : VK} {kx vx tg iter : Expr} {ifs : List Expr} {scope : Scope} {own : List (Str × Nat)} {pos pos' : Pos} {wi : TI} {g : TG} {tt : TT} {tk tv : TE} {use : Option (Value → Sem Unit)} {Qf : Value → Shared → Prop}
    (hc : X.calm = true) (hN : X.N.Nodup) (I : Inv X pins σ H s) (hi : PI X tg iter wi) (ok : BlkOk X.N X.env.scope scope own)
    (hg : ∀ (s : Shared) (H : Hp) (C : Addr) (cl : List (Str × Addr)) (fp : List Addr), PG (X.blk s H scope (compEnvC scope cl C X.env) fp) tg g) (ht : ∀ (s : Shared) (H : Hp) (C : Addr) (cl : List (Str × Addr)) (fp : List Addr), PTs (X.blk s H scope (compEnvC scope cl C X.env) fp) ifs tt)
    (hk : ∀ (s : Shared) (H : Hp) (C : Addr) (cl : List (Str × Addr)) (fp : List Addr), PE (X.blk s H scope (compEnvC scope cl C X.env) fp) kx tk)
    (he : ∀ (s : Shared) (H : Hp) (C : Addr) (cl : List (Str × Addr)) (fp : List Addr), PE (X.blk s H scope (compEnvC scope cl C X.env) fp) vx tv) (hs : ∀ x, foldedSetIterable iter X.env x = pure x)
    (h : tDg X.K X.w wi g tt tk tv (own.map (·.2)) σ H Q)
    (hRR : ∀ D C s' m H', Inv X pins σ H' s' → Q (.ref D) H' → s'.heap.Ns C m → FpOk X pins H' C → compPost (model X.prog X.w) X.A X.xe use Qf (.ref D) C (.ok .next) s') :
    wpAny (model X.prog X.w) X.A (comprehension (.DictComp kx vx [⟨tg, iter, ifs, 0⟩] scope pos) scope X.env pos' PySem.newDict false (eval iter X.env) use) Qf X.xe s := by
  have hfree : ∀ y ∈ scope.names, y.2 = .free → ∃ c, X.env.cells.lookup y.1 = some c := fun y hy e => by
    rcases ok.free y hy e with k | k
    · exact I.ok.has _ (.inl k)
    · exact I.ok.has _ (.inr k)
  refine wpAny_comprehension_free (use := use) rfl hs (closure_ok hfree) ok.kind (fun y hy e => by rw [ok.uniq y hy, e])
    (thn (hi.run pins s σ H _ I h) fun xv s1 hx => thn hx fun itv s2 h2 => ?_)
  obtain ⟨it, fp, tn, J, H2, e, I2, T, st2, f2, q⟩ := h2
  subst e
  refine wpAny_newObj_type (newEnv_comp ?_)
  generalize hD : s2.heap.objs.size = D
  have hDn : H2 D = none := I2.hok.fresh (Nat.le_of_eq hD)
  have hDs : (D == sysModules) = false := by
    have := I2.big
    rw [← hD]
    exact beq_eq_false_iff_ne.mpr (Nat.ne_of_gt this)
  obtain ⟨o0, ho0⟩ : ∃ o : Obj, ({ cls := .type "dict", data := .dict #[] } : Obj) = o := ⟨_, rfl⟩
  have hrd : ∃ ep, RawD D o0 #[] ep [] [] := by
    rw [← ho0]
    exact ⟨_, ⟨rfl, rfl, rfl⟩, rfl, .nil, .nil, Nat.zero_le _, hDs⟩
  obtain ⟨W, ⟨m0, w0⟩, turn⟩ := q D o0 hDn hrd
  generalize hs3 : ({ s2 with heap := s2.heap.push o0 } : Shared) = s3
  have I3 : Inv X pins σ (upd H2 D (RawIs D o0)) s3 := by
    rw [← hs3]
    refine I2.laid (t' := s2.toks) (fun b o e => Heap.get?_push_of_some _ e) (Nat.le_of_eq hD) ?_
    rw [← hD, ← ho0]
    exact ⟨Heap.get?_push_size _ rfl, ⟨_, Heap.get?_push_size _ rfl⟩, fun h1 h2 p q => q _ p⟩
  have h3 : s3.heap = s2.heap.push o0 := by rw [← hs3]
  have hs3' : ({ s2 with heap := s2.heap.push { cls := .type "dict", data := .dict #[] } } : Shared) = s3 := by rw [← hs3, ← ho0]
  have sz : ∀ b ∈ fp, b < s2.heap.objs.size := fun b hb => by
    obtain ⟨o, e, _⟩ := T.obj _ _ st2 b hb
    exact Heap.lt_size e
  have f3 : ∀ b ∈ fp, FpOk X pins (upd H2 D (RawIs D o0)) b ∧ b < s3.heap.objs.size := fun b hb => by
    have hlt := sz b hb
    refine ⟨⟨?_, (f2 b hb).2⟩, by rw [h3, Heap.size_push]; exact Nat.lt_succ_of_lt hlt⟩
    rw [upd_ne (by rw [← hD]; exact Nat.ne_of_lt hlt)]
    exact (f2 b hb).1
  have st3 : tn 0 s3.heap := T.keep _ _ _ st2 fun b _ o e => by rw [h3]; exact Heap.get?_push_of_some _ e
  have I4 := block_start I3 ok hN f3
  have pg := hg s3 (upd H2 D (RawIs D o0)) s3.heap.objs.size (cellsFrom (s3.heap.objs.size + 1) scope.names (cloFrom X.env.cells scope.names [])) fp
  have pt := ht s3 (upd H2 D (RawIs D o0)) s3.heap.objs.size (cellsFrom (s3.heap.objs.size + 1) scope.names (cloFrom X.env.cells scope.names [])) fp
  have pk := hk s3 (upd H2 D (RawIs D o0)) s3.heap.objs.size (cellsFrom (s3.heap.objs.size + 1) scope.names (cloFrom X.env.cells scope.names [])) fp
  have pe := he s3 (upd H2 D (RawIs D o0)) s3.heap.objs.size (cellsFrom (s3.heap.objs.size + 1) scope.names (cloFrom X.env.cells scope.names [])) fp
  rw [hs3']
  show codeAny _ _ (.compStart (.DictComp kx vx [⟨tg, iter, ifs, 0⟩] scope pos) 0 (.ref it) (.ref D) (compEnvC scope (cellsFrom (s3.heap.objs.size + 1) scope.names (cloFrom X.env.cells scope.names [])) s3.heap.objs.size X.env)) (compPost (model X.prog X.w) X.A X.xe use Qf (.ref D) s3.heap.objs.size) { s3 with heap := pushCells (s3.heap.push { cls := .type "dict", data := .dict #[] }) scope.names }
  have nfp : ∀ b ∈ fp, (upd H2 D (RawIs D o0)) b = none := fun b hb => (f3 b hb).1.1
  generalize hce : compEnvC scope (cellsFrom (s3.heap.objs.size + 1) scope.names (cloFrom X.env.cells scope.names [])) s3.heap.objs.size X.env = ce at I4 pg pt pk pe ⊢
  have cL : ce.locals = s3.heap.objs.size := by subst hce; rfl
  generalize hH3 : upd H2 D (RawIs D o0) = H3 at I3 I4 pg pt pk pe w0 nfp f3
  generalize hs4 : ({ s3 with heap := pushCells (s3.heap.push { cls := .type "dict", data := .dict #[] }) scope.names } : Shared) = s4 at I4 ⊢
  have st4 : tn 0 s4.heap := T.keep _ _ _ st3 fun b _ o e => by rw [← hs4]; exact pushCells_keeps _ _ _ _ (Heap.get?_push_of_some _ e)
  have stat : ∀ {σ' : L2.St} {H' : Hp} {s' : Shared}, Inv (X.blk s3 H3 scope ce fp) [] σ' H' s' → (∀ b ∈ fp, H' b = none) → ∀ b ∈ fp, FpOk (X.blk s3 H3 scope ce fp) [] H' b := fun {σ' H' s'} I' hn b hb =>
    ⟨hn b hb, (I'.ok.exf b hb).1, I'.ok.exfs b hb, .inl hb, fun x c e => (I'.ok.exf b hb).2 x c e, fun p hp => absurd (show p ∈ ([] : List (Addr × Obj)) ++ [] from hp) (by simp)⟩
  have loop : codeAny (model X.prog X.w) X.A (.compLoop (.DictComp kx vx [⟨tg, iter, ifs, 0⟩] scope pos) 0 (.ref it) (.ref D) ce) (compPost (model X.prog X.w) X.A X.xe use Qf (.ref D) s3.heap.objs.size) s4 := by
    refine compLoop_anyD (fun n s' => ∃ i H', Inv (X.blk s3 H3 scope ce fp) [] (wipe σ (own.map (·.2))) H' s' ∧ tn i s'.heap ∧ (∀ b ∈ fp, H' b = none) ∧ W i n H') ?_ m0 ⟨0, H3, I4, st4, nfp, w0⟩
    rintro n s5 ⟨i, H5, I5, st5, n5, w5⟩
    rcases turn i n H5 w5 with ⟨stop, qq⟩ | ⟨go, Nx, hNx, step⟩
    · have td := T.done (X.blk s3 H3 scope ce fp) rfl rfl rfl hc i [] s5 _ H5 (fun _ _ => False) I5 (stat I5 n5) st5 stop
      refine thnF td fun r s6 ⟨hr, I6⟩ => ?_
      subst hr
      -- back in the def's context
      have I7 : Inv X pins σ H5 s6 := I3.call' (ch := fp) I6.os I6.base I6.hok I6.bare fun b hb => ⟨(f3 b hb).1.2.2.2.1, (f3 b hb).1.2.1, (f3 b hb).1.2.2.2.2.1, (f3 b hb).1.2.2.2.2.2⟩
      have nC : H5 s3.heap.objs.size = none := by
        have z : H5 ce.locals = none := I6.free
        rw [cL] at z
        exact z
      obtain ⟨m, hn, _⟩ := I6.loc
      have hn : s6.heap.Ns ce.locals m := hn
      rw [cL] at hn
      exact hRR D s3.heap.objs.size s6 m H5 I7 qq hn (I3.fpOk (Nat.le_refl _) nC)
    · have ti := T.item (X.blk s3 H3 scope ce fp) rfl rfl rfl hc i [] s5 _ H5 (fun _ _ => False) I5 (stat I5 n5) st5 go
      refine thnF ti fun r s6 ⟨u, hr, h6⟩ => ?_
      subst hr
      refine thnF h6 fun _ s7 ⟨x, H7, I7, r7, y7, st7, n7⟩ => ?_
      have I7' := I7.pinned (stat I7 n7) (T.obj _ _ st7)
      refine thnF (pg.run _ s7 _ H7 x u _ I7' r7 (step x H7 y7)) fun _ s8 ⟨σ8, H8, I8, hw8, q8⟩ => ?_
      refine thnF (pt.run _ s8 σ8 H8 _ I8 q8) fun b s9 ⟨H9, I9, q9⟩ => ?_
      -- the turn's end
      have fin : ∀ {s' : Shared} {H' : Hp}, Inv (X.blk s3 H3 scope ce fp) ([] ++ pinsAt fp s7.heap) σ8 H' s' → Nx H' → ∃ m, m < n ∧ ∃ i H', Inv (X.blk s3 H3 scope ce fp) [] (wipe σ (own.map (·.2))) H' s' ∧ tn i s'.heap ∧ (∀ b ∈ fp, H' b = none) ∧ W i m H' := fun {s' H'} I' nx => by
        obtain ⟨m', hm, w'⟩ := hNx H' nx
        have pin' : ∀ b ∈ fp, ∀ o, s7.heap.get? b = some o → s'.heap.get? b = some o ∧ H' b = none := fun b hb o e =>
          let z := I'.pin (b, o) (List.mem_append_right _ (List.mem_append_right _ (mem_pinsAt hb e)))
          ⟨z.1, z.2.1⟩
        have hl : (wipe σ (own.map (·.2))).length = σ8.length := by rw [← hw8, wipe_length]
        refine ⟨m', hm, i + 1, H', (I'.unpinned (pins := [])).weak hl (fun j v e => ?_), T.keep _ _ _ st7 fun b hb o e => (pin' b hb o e).1, fun b hb => ?_, w'⟩
        · rw [← hw8] at e
          exact (wipe_some e).1
        · obtain ⟨o, e, _⟩ := T.obj _ _ st7 b hb
          exact (pin' b hb o e).2
      cases b with
      | false =>
        simp only [Bool.false_eq_true, if_false] at q9 ⊢
        exact fin I9 q9
      | true =>
        simp only [if_true] at q9 ⊢
        refine thnF (pk.run _ s9 σ8 H9 _ I9 q9) fun z s10 ⟨yk, H10, I10, r10, q10⟩ => ?_
        refine thnF (pe.run _ s10 σ8 H10 _ I10 q10) fun z2 s11 ⟨yv, H11, I11, r11, pn⟩ => ?_
        exact put_run (X := X.blk s3 H3 scope ce fp) hr I11 pn r10 r11 fun s12 H12 I12 nx => fin I12 nx
  exact codeAny_compStart_dict loop (T.self X.A 0 _ _ _ st4 loop)
/-- what a dict comprehension with any keys has made -/
def DgEnd (K : PySem.W.Frag) (W : World) (w : Ws) (d : Dt) (M' : Mem) (Q : VK) : VK := fun v H' => ∃ D w1 w2 o ks us, v = .ref D ∧ w2.H = H' ∧ Ok K W w1 ∧ Ext w w1 ∧ w1.H D = none ∧ Ok K W w2 ∧ D ∈ w2.ex ∧ Ext w1 w2 ∧ Mid K W w2 D ks us o ∧
  d = .ref w2.M.length ∧ M' = w2.M ++ [some (.dic ks us)] ∧ Fin1 K W w d M' Q
theorem Mid.ext {K : PySem.W.Frag} {W : World} {w w' : Ws} {D : Addr} {ks us : List Dt} {o : Obj} (m : Mid K W w D ks us o) (h : D ∈ w.ex) (x : Ext w w') : Mid K W w' D ks us o := by
  obtain ⟨h1, es, ep, kx, vx, r, k, d1, d2⟩ := m
  exact ⟨by rw [x.hid D h]; exact h1, es, ep, kx, vx, r, k, d1.mono x, d2.mono x⟩
theorem upd_id {H : Hp} {D : Addr} {u : HO} (h : H D = some u) : L2.upd H D u = H := by
  funext a
  by_cases e : a = D
  · subst e; rw [upd_same, h]
  · rw [upd_ne e]
theorem dg_read {K : PySem.W.Frag} {W : World} {mi : IM} {t : Tgt} {mc : TM} {mk mv : EM} {vs : List Nat} (hv : ∀ i ∈ t.slots, i ∈ vs) {σ : L2.St} {H : Hp} {Q : VK} (q : tE K W (dgE mi t mc mk mv vs) σ H Q) :
    ∃ w d M', w.H = H ∧ tDg K W (tI K W mi) (t.g K) (tT K W mc) (tE K W mk) (tE K W mv) vs σ H (DgEnd K W w d M' Q) := by
  obtain ⟨w, sl, d, M', rfl, ok, er, hm, f⟩ := q
  obtain ⟨src, M1, h1, hm⟩ := thn1_eq hm
  split at hm
  · rename_i ks0 us0 M2 h2
    simp only [Option.some.injEq, Prod.mk.injEq] at hm
    obtain ⟨rfl, rfl⟩ := hm
    refine ⟨w, .ref M2.length, M2 ++ [some (.dic ks0 us0)], rfl, w, sl, src, M1, rfl, ok, er, h1, fun w1 J hM1 ok1 x1 y => ?_⟩
    intro D o0 hD hrd
    refine ⟨fun i m H => m = src.its.length - i ∧ i ≤ src.its.length ∧ ∃ w2 o ks us, w2.H = H ∧ Ok K W w2 ∧ D ∈ w2.ex ∧ Ext w1 w2 ∧ Mid K W w2 D ks us o ∧ dgL src.gd t mc mk mv (wipeS sl vs) (src.its.drop i) ks us w2.M = some (ks0, us0, M2),
      ⟨src.its.length, by simp, Nat.zero_le _, w1.hide D (RawIs D o0), o0, [], [], rfl, ok1.hide hD, List.mem_cons_self, Ext.hide ok1 hD, ⟨upd_same, ?_⟩, by show dgL src.gd t mc mk mv (wipeS sl vs) src.its [] [] w1.M = _; rw [hM1]; exact h2⟩, ?_⟩
    · obtain ⟨ep, r⟩ := hrd
      exact ⟨#[], ep, [], [], r, ⟨[], rfl, List.nodup_nil, (fun _ h => nomatch h), rfl⟩, .nil, .nil⟩
    rintro i m H2 ⟨rfl, hil, w2, o, ks, us, rfl, ok2, hDx, x2, md, hl⟩
    by_cases hlt : i < src.its.length
    · rw [List.drop_eq_getElem_cons hlt] at hl
      unfold dgL at hl
      split at hl
      · rename_i hgd
        obtain ⟨y1, _⟩ := y i w2 ok2 x2 hgd
        obtain ⟨hgo, hy⟩ := y1 _ (List.getElem?_eq_getElem hlt)
        refine .inr ⟨hgo, fun H' => i + 1 ≤ src.its.length ∧ ∃ w3 o ks us, w3.H = H' ∧ Ok K W w3 ∧ D ∈ w3.ex ∧ Ext w1 w3 ∧ Mid K W w3 D ks us o ∧ dgL src.gd t mc mk mv (wipeS sl vs) (src.its.drop (i + 1)) ks us w3.M = some (ks0, us0, M2),
          fun H' ⟨h, r⟩ => ⟨src.its.length - (i + 1), by omega, rfl, h, r⟩, fun v H' hv' => ?_⟩
        obtain ⟨w3, rfl, hM3, ok3, x3, rv⟩ := hy v H' hv'
        split at hl
        · cases hl
        · rename_i e4 hg4
          have er3 : EnvR K W w3 (L2.wipe σ vs) (wipeS sl vs) := (er.mono ((x1.trans x2).trans x3)).wipe vs
          refine Tgt.ok (σ0 := σ) hv rv er3 ?_ hg4 fun σ4 er4 hw4 => ⟨hw4, ?_⟩
          · refine List.ext_getElem? fun j => ?_
            rw [wipe_get, wipe_get, wipe_length]
            split
            · rfl
            · rfl
          · obtain ⟨b, M5, hc5, hl⟩ := thn1_eq hl
            refine ⟨w3, e4, b, M5, rfl, ok3, er4, by rw [hM3]; exact hc5, fun w5 hM5 ok5 x5 => ?_⟩
            have x15 := (x2.trans x3).trans x5
            have hDx3 : D ∈ w3.ex := x3.exm D hDx
            have hDx5 : D ∈ w5.ex := x5.exm D hDx3
            have md5 : Mid K W w5 D ks us o := (md.ext hDx x3).ext hDx3 x5
            cases b with
            | false =>
              simp only [Bool.false_eq_true, if_false] at hl ⊢
              exact ⟨hlt, w5, o, ks, us, rfl, ok5, hDx5, x15, md5, by rw [hM5]; exact hl⟩
            | true =>
              simp only [if_true] at hl ⊢
              obtain ⟨yk, M6, hk6, hl⟩ := thn1_eq hl
              obtain ⟨yv, M7, hv7, hl⟩ := thn1_eq hl
              split at hl
              · rename_i k hkk
                split at hl
                · rename_i hz
                  refine ⟨w5, e4, yk, M6, rfl, ok5, er4.mono x5, by rw [hM5]; exact hk6, fun w6 z6 hM6 ok6 x6 rz6 => ?_⟩
                  refine ⟨w6, e4, yv, M7, rfl, ok6, (er4.mono x5).mono x6, by rw [hM6]; exact hv7, fun w7 z7 hM7 ok7 x7 rz7 => ?_⟩
                  have hDx6 : D ∈ w6.ex := x6.exm D hDx5
                  have hDx7 : D ∈ w7.ex := x7.exm D hDx6
                  have md7 := (md5.ext hDx5 x6).ext hDx6 x7
                  refine ⟨w7, yk, yv, ks, us, k, o, rfl, md7, rz6.mono x7, rz7, hkk, hz, fun o' ⟨es, ep, kx, vx, r1, r2, r3, r4⟩ => ?_⟩
                  have e0 : Ext0 w7 (w7.upd D (RawIs D o')) := Ext0.updM hDx7 md7.at' True.intro
                  refine ⟨hlt, w7.upd D (RawIs D o'), o', (putD ks us k yk yv).1, (putD ks us k yk yv).2, rfl, ok7.updM hDx7 md7.at' True.intro, hDx7, Ext.upd ok1 ((x15.trans x6).trans x7) hD, ⟨upd_same, es, ep, kx, vx, r1, r2, Dvs.mono0 e0 _ _ r3, Dvs.mono0 e0 _ _ r4⟩, ?_⟩
                  show dgL src.gd t mc mk mv (wipeS sl vs) (src.its.drop (i + 1)) _ _ w7.M = _
                  rw [hM7]
                  exact hl
                · cases hl
              · cases hl
      · cases hl
    · have e : i = src.its.length := by omega
      rw [List.drop_eq_nil_of_le (by omega)] at hl
      unfold dgL at hl
      split at hl
      · rename_i hgd
        simp only [Option.some.injEq, Prod.mk.injEq] at hl
        obtain ⟨rfl, rfl, hM⟩ := hl
        obtain ⟨_, y2⟩ := y i w2 ok2 x2 hgd
        exact .inl ⟨y2 (by omega), D, w1, w2, o, ks, us, rfl, rfl, ok1, x1, hD, ok2, hDx, x2, md, by rw [hM], by rw [hM], f⟩
      · cases hl
  · cases hm
theorem mid_bare {K : PySem.W.Frag} {W : World} {w1 w2 : Ws} {D : Addr} {ks us : List Dt} {o : Obj} (ok1 : Ok K W w1) (hD : w1.H D = none) (ok2 : Ok K W w2) (hDx : D ∈ w2.ex) (x2 : Ext w1 w2) (md : Mid K W w2 D ks us o) :
    Ok K W (w2.bare D (RawIs D o) (.dic ks us) w1.ex) := by
  have hsub : ∀ a ∈ w1.ex, a ∈ w2.ex := fun a ha => x2.exm a ha
  obtain ⟨h1, es, ep, kx, vx, r1, r2, r3, r4⟩ := md
  have e0 := Ext0.bare ok2 (o := RawIs D o) (c := .dic ks us) (ex := w1.ex) hDx h1 True.intro hsub
  exact ok2.bare (o := RawIs D o) (c := .dic ks us) hDx h1 True.intro hsub (ok1.exf hD) ⟨o, es, ep, kx, vx, upd_same, r1, r2, Dvs.mono0 e0 _ _ r3, Dvs.mono0 e0 _ _ r4⟩
theorem re_dg {k : Nat} (hr : Room k X.A) {kx vx tg iter : Expr} {ifs : List Expr} {scope : Scope} {own : List (Str × Nat)} {pos : Pos} {mi : IM} {t : Tgt} {mc : TM} {mk mv : EM} (hc : X.calm = true) (hN : X.N.Nodup) (hi : RI X tg iter mi) (ok : BlkOk X.N X.env.scope scope own)
    (hg : ∀ (s : Shared) (H : Hp) (C : Addr) (cl : List (Str × Addr)) (fp : List Addr), PG (X.blk s H scope (compEnvC scope cl C X.env) fp) tg (t.g X.K)) (ht : ∀ (s : Shared) (H : Hp) (C : Addr) (cl : List (Str × Addr)) (fp : List Addr), RTs (X.blk s H scope (compEnvC scope cl C X.env) fp) ifs mc)
    (hk : ∀ (s : Shared) (H : Hp) (C : Addr) (cl : List (Str × Addr)) (fp : List Addr), RE (X.blk s H scope (compEnvC scope cl C X.env) fp) kx mk)
    (he : ∀ (s : Shared) (H : Hp) (C : Addr) (cl : List (Str × Addr)) (fp : List Addr), RE (X.blk s H scope (compEnvC scope cl C X.env) fp) vx mv) (hv : ∀ i ∈ t.slots, i ∈ own.map (·.2)) (hs : ∀ x, foldedSetIterable iter X.env x = pure x := by intro _; rfl) :
    RE X (.DictComp kx vx [⟨tg, iter, ifs, 0⟩] scope pos) (dgE mi t mc mk mv (own.map (·.2))) := by
  refine ⟨fun pins s σ H Q I q => ?_⟩
  obtain ⟨w, d, M', rfl, q2⟩ := dg_read hv q
  rw [arm_eval_DictComp]
  refine dg_core (use := none) hr hc hN I hi ok hg ht hk he hs q2 fun L C s' m H' I' q hn f => ⟨m, hn, fun h'' sb => ?_⟩
  obtain ⟨f0, f1, f2, f3, f4, f5⟩ := f
  obtain ⟨D, w1, w2, o, ks, us, ev, eH, ok1, x1, hD, ok2, hDx, x2, md, ed, eM, fq⟩ := q
  cases ev
  subst eH
  refine ⟨.ref L, _, I'.turned (t' := s'.toks) (fun b o hb e => (sb.2 b hb).trans e) f0 f1 f3 f4 f5, rfl, ?_⟩
  have hq := fq (w2.bare L (RawIs L o) (.dic ks us) w1.ex) (.ref L) eM.symm (mid_bare ok1 hD ok2 hDx x2 md) (x1.trans (Ext.bare ok1 ok2 x2 hD)) (by rw [ed]; exact bare_ref ok2)
  have e : (w2.bare L (RawIs L o) (.dic ks us) w1.ex).H = w2.H := upd_id md.at'
  rw [e] at hq
  exact hq
theorem rs_setDg {k : Nat} (hr : Room k X.A) {i : Nat} {y : Str} {py : Pos} {kx vx tg iter : Expr} {ifs : List Expr} {scope : Scope} {own : List (Str × Nat)} {pos spos : Pos} {mi : IM} {t : Tgt} {mc : TM} {mk mv : EM} (hc : X.calm = true) (hN : X.N.Nodup) (hyl : X.env.scope.names.lookup y = some .local)
    (hsw : swapsWith (.DictComp kx vx [⟨tg, iter, ifs, 0⟩] scope pos) (some (.Name y py)) spos.line X.env = pure true) (hi : RI X tg iter mi) (ok : BlkOk X.N X.env.scope scope own)
    (hg : ∀ (s : Shared) (H : Hp) (C : Addr) (cl : List (Str × Addr)) (fp : List Addr), PG (X.blk s H scope (compEnvC scope cl C X.env) fp) tg (t.g X.K)) (ht : ∀ (s : Shared) (H : Hp) (C : Addr) (cl : List (Str × Addr)) (fp : List Addr), RTs (X.blk s H scope (compEnvC scope cl C X.env) fp) ifs mc)
    (hk : ∀ (s : Shared) (H : Hp) (C : Addr) (cl : List (Str × Addr)) (fp : List Addr), RE (X.blk s H scope (compEnvC scope cl C X.env) fp) kx mk)
    (he : ∀ (s : Shared) (H : Hp) (C : Addr) (cl : List (Str × Addr)) (fp : List Addr), RE (X.blk s H scope (compEnvC scope cl C X.env) fp) vx mv) (hv : ∀ i ∈ t.slots, i ∈ own.map (·.2)) (hy : X.N[i]? = some y := by rfl) (hs : ∀ x, foldedSetIterable iter X.env x = pure x := by intro _; rfl) :
    RS X (.Assign [.Name y py] (.DictComp kx vx [⟨tg, iter, ifs, 0⟩] scope pos) spos) (setS i (dgE mi t mc mk mv (own.map (·.2)))) := by
  refine ⟨fun pins s σ H D I q => ?_⟩
  obtain ⟨w, sl, fl, sl', M', rfl, okw, er, hm, f⟩ := q
  obtain ⟨d, M1, h1, hm⟩ := thn1_eq hm
  cases hm
  obtain ⟨w0, d0, M0, hw0, q2⟩ := dg_read (Q := fun v H1 => D.nx (σ.set i (some v)) H1) hv ⟨w, sl, d, M', rfl, okw, er, h1, fun w1 v hM1 ok1 x1 r => f w1 hM1 ok1 x1 _ ((er.mono x1).set r i)⟩
  rw [exec_Assign_Name_used _ _ _ _ hsw]
  refine wpAny_bind (wpAny_standAt (wpAny_bind ?_))
  show wpAny _ X.A (do let _ ← comprehension (.DictComp kx vx [⟨tg, iter, ifs, 0⟩] scope pos) scope X.env (firstIterPos [⟨tg, iter, ifs, 0⟩] pos) PySem.newDict false (eval iter X.env) (some (assign (.Name y py) X.env))) _ _ s
  refine wpAny_bind (thn (dg_core (Qf := fun _ s' => SP X pins D .next s') hr hc hN I hi ok hg ht hk he hs q2 fun L C s' m H' I' q hn f => ?_) fun _ s' hq => wpAny_pure (wpAny_pure hq))
  show wpAny _ _ (assign (.Name y py) X.env (.ref L)) _ _ _
  refine wpAny_assign_Name (store_ok2 (v := V.ref L) I' hN hy (.inl hyl) rfl (fun s2 I2 ⟨a, sb, ha⟩ => ?_) (.inr hyl))
  obtain ⟨f0, f1, f2, f3, f4, f5⟩ := f
  have haC : C ≠ a := by
    rcases ha with z | z
    · rw [z]; exact f1
    · exact fun e => f4 y a z e.symm
  refine ⟨m, hn.sameBut sb haC, fun h3 sb3 => ?_⟩
  have I1 := I2.turned (t' := s2.toks) (fun b o hb e => (sb3.2 b hb).trans e) f0 f1 f3 f4 f5
  obtain ⟨D', w1, w2, o, ks, us, ev, eH, ok1, x1, hD, ok2, hDx, x2, md, ed, eM, fq⟩ := q
  cases ev
  subst eH
  refine ⟨_, _, I1, ?_⟩
  have hq := fq (w2.bare L (RawIs L o) (.dic ks us) w1.ex) (.ref L) eM.symm (mid_bare ok1 hD ok2 hDx x2 md) (x1.trans (Ext.bare ok1 ok2 x2 hD)) (by rw [ed]; exact bare_ref ok2)
  have e : (w2.bare L (RawIs L o) (.dic ks us) w1.ex).H = w2.H := upd_id md.at'
  rw [e] at hq
  exact hq
end
end DL
/-! The data layer, part B: repr of containers; a def that is run at one place (the law's own), where no repr is under way. -/
namespace DL
open PySem PySem.Spec PyProof.Rows L2
/-! ### what is shown -/
mutual
def toP : Dt → Option PyData
  | .non => some .none
  | .bl b => some (.bool b)
  | .int i => some (.int i)
  | .str x => some (.str x)
  | .tup ds => (toPs ds).map .tuple
  | .lst ds => (toPs ds).map .list
  | _ => none
def toPs : List Dt → Option (List PyData)
  | [] => some []
  | d :: ds => match toP d, toPs ds with
    | some p, some ps => some (p :: ps)
    | _, _ => none
end
section
variable {X : Cx} {pins : List (Addr × Obj)} {σ : L2.St} {s : Shared} {w : Ws}
mutual
theorem Dv.shown (I : Inv X pins σ w.H s) : ∀ (d : Dt) (v : V) (p : PyData) (u : Value), Dv X.K X.w w v d → toP d = some p → RelV v u → ∃ as, Reads s.heap u p as
  | .non, _, _, _, h, e, r => by cases h; simp [toP] at e; subst e; cases r; exact ⟨_, .none⟩
  | .bl b, _, _, _, h, e, r => by cases h; simp [toP] at e; subst e; cases r; exact ⟨_, .bool b⟩
  | .int i, _, _, _, h, e, r => by cases h; simp [toP] at e; subst e; obtain ⟨t, rfl⟩ := r; exact ⟨_, .int _ _⟩
  | .str x, _, _, _, h, e, r => by cases h; simp [toP] at e; subst e; obtain ⟨t, rfl⟩ := r; exact ⟨_, .str _ _⟩
  | .tup ds, _, p, _, h, e, r => by
    rw [toP, Option.map_eq_some_iff] at e
    obtain ⟨ps, e, rfl⟩ := e
    cases h with
    | tup h1 h2 =>
      cases r
      obtain ⟨its, rv, ⟨o, ho, hc, k, hd⟩, _⟩ := I.tuple h1
      obtain ⟨as, ra⟩ := Dvs.shown I ds _ ps its h2 e rv
      exact ⟨_, .tuple ho hc hd (by simpa using ra)⟩
  | .lst ds, _, p, _, h, e, r => by
    rw [toP, Option.map_eq_some_iff] at e
    obtain ⟨ps, e, rfl⟩ := e
    cases h with
    | lst h1 _ h2 =>
      cases r
      obtain ⟨_, its, n, rv, _, ho⟩ := I.lstM h1
      obtain ⟨as, ra⟩ := Dvs.shown I ds _ ps its h2 e rv
      exact ⟨_, .list ho rfl rfl (by simpa using ra)⟩
  | .lsk _, _, _, _, _, e, _ => by simp [toP] at e
  | .adr _, _, _, _, _, e, _ => by simp [toP] at e
  | .ty _, _, _, _, _, e, _ => by simp [toP] at e
  | .ref _, _, _, _, _, e, _ => by simp [toP] at e
  | .dic _ _, _, _, _, _, e, _ => by simp [toP] at e
  | .obj _ _ _, _, _, _, _, e, _ => by simp [toP] at e
  | .sett _, _, _, _, _, e, _ => by simp [toP] at e
theorem Dvs.shown (I : Inv X pins σ w.H s) : ∀ (ds : List Dt) (vs : List V) (ps : List PyData) (us : List Value), Dvs X.K X.w w vs ds → toPs ds = some ps → Vals vs us → ∃ as, ReadsAll s.heap us ps as
  | [], _, _, _, h, e, r => by cases h; simp [toPs] at e; subst e; cases r; exact ⟨_, .nil⟩
  | d :: ds, _, ps, _, h, e, r => by
    rw [toPs] at e
    split at e
    · rename_i q qs e1 e2
      cases e
      cases h with
      | cons h1 h2 =>
        cases r with
        | cons r1 r2 =>
          obtain ⟨a1, x1⟩ := Dv.shown I d _ q _ h1 e1 r1
          obtain ⟨a2, x2⟩ := Dvs.shown I ds _ qs _ h2 e2 r2
          exact ⟨_, .cons x1 x2⟩
    · cases e
end
end
mutual
theorem toP_noDict : ∀ (d : Dt) (p : PyData), toP d = some p → p.hasDict = false
  | .non, _, e => by simp [toP] at e; subst e; rfl
  | .bl b, _, e => by simp [toP] at e; subst e; rfl
  | .int i, _, e => by simp [toP] at e; subst e; rfl
  | .str x, _, e => by simp [toP] at e; subst e; rfl
  | .tup ds, _, e => by
    rw [toP, Option.map_eq_some_iff] at e
    obtain ⟨ps, e, rfl⟩ := e
    rw [PyData.hasDict]
    exact toPs_noDict ds ps e
  | .lst ds, _, e => by
    rw [toP, Option.map_eq_some_iff] at e
    obtain ⟨ps, e, rfl⟩ := e
    rw [PyData.hasDict]
    exact toPs_noDict ds ps e
  | .lsk _, _, e => by simp [toP] at e
  | .adr _, _, e => by simp [toP] at e
  | .ty _, _, e => by simp [toP] at e
  | .ref _, _, e => by simp [toP] at e
  | .dic _ _, _, e => by simp [toP] at e
  | .obj _ _ _, _, e => by simp [toP] at e
  | .sett _, _, e => by simp [toP] at e
theorem toPs_noDict : ∀ (ds : List Dt) (ps : List PyData), toPs ds = some ps → PyData.hasDictAll ps = false
  | [], _, e => by simp [toPs] at e; subst e; rfl
  | d :: ds, _, e => by
    rw [toPs] at e
    split at e
    · rename_i q qs e1 e2
      cases e
      rw [PyData.hasDictAll, toP_noDict d q e1, toPs_noDict ds qs e2]
      rfl
    · cases e
end
/-- what can be shown here -/
def ShowOk (p : PyData) : Prop := p.showable = true ∧ isDisplay p = true ∧ p.shown.length ≤ sizeLine ∧ p.depth ≤ 100
open Classical in
noncomputable def reprA : FM := fun ds M => match ds with
  | [d] => match toP d with
    | some p => if ShowOk p then some (.str p.shown, M) else none
    | none => none
  | _ => none
def rRepr (K : PySem.W.Frag) (W : World) : List V → Hp → VK → Prop := fun xs H Q => ∃ w x d p, w.H = H ∧ Ok K W w ∧ xs = [x] ∧ Dv K W w x d ∧ toP d = some p ∧ ShowOk p ∧ Q (.str p.shown) H
theorem repr_ok {K : PySem.W.Frag} {W : World} : C1Ok K W (rRepr K W) reprA := by
  intro w xs ds d M' Q ok r h f
  unfold reprA at h
  split at h
  · rename_i a
    split at h
    · rename_i p hp
      split at h
      · rename_i hs
        cases h
        obtain ⟨x, rfl, rx⟩ := one_arg r
        exact ⟨w, x, a, p, rfl, ok, rfl, rx, hp, hs, f w _ rfl ok (Ext.refl w) (.str _)⟩
      · cases h
    · cases h
  · cases h
theorem call_repr {X : Cx} {k : Nat} (hg : X.A.guards = some []) (hr : Room k X.A) : CallR X (.builtin "repr") (rRepr X.K X.w) := by
  intro pins s σ H xs us Q I r h
  obtain ⟨w, x, d, p, rfl, ok, rfl, dx, hp, ⟨h1, h2, h3, h4⟩, q⟩ := h
  obtain ⟨u, rfl, rx⟩ := r.one
  obtain ⟨as, rd⟩ := Dv.shown I d x p u dx hp rx
  obtain ⟨a, rfl⟩ := isRef_of_reads rd h2
  have hu := hr.un
  refine repr_of_reads' rd h1 (PyData.noDict_hsm (toP_noDict d p hp)) hg (by omega) (fun _ _ e => e) (fun h' u tk hk => ?_) h3
  exact ⟨.str p.shown, w.H, I.kept (t' := tk) hk, ⟨u, rfl⟩, q⟩
/-! ### a def at one place of the run -/
structure FnAt (A : Around) (P : Program) (w : World) (K : PySem.W.Frag) (mg : Str → Option Value) (base : Heap) (CX : CXT) (f : Addr) (fd : FuncData) (ps : List Str) (sp : Sp) : Prop where
  len : ∀ vs H Q E, sp vs H Q E → vs.length = ps.length
  run : ∀ (outer : List Env) (s : Shared) (H : Hp) (args : Args) (us : List Value) (vs : List V) (Q : VK) (E : XK), Env0 P w K mg base A outer s H → BindsTo s fd args (ps.zip us) → Vals vs us → sp vs H Q E →
    codeAny (model P w) A (.call (.ref f) args) (CR CX outer P w H s Q E) s
theorem FnAt.imp {A : Around} {P : Program} {w : World} {K : PySem.W.Frag} {mg : Str → Option Value} {base : Heap} {CX : CXT} {f : Addr} {fd : FuncData} {ps : List Str} {sp sp' : Sp} (F : FnAt A P w K mg base CX f fd ps sp)
    (h : ∀ vs H Q E, sp' vs H Q E → sp vs H Q E) : FnAt A P w K mg base CX f fd ps sp' :=
  ⟨fun vs H Q E q => F.len vs H Q E (h _ _ _ _ q), fun outer s H args us vs Q E he hb hv hs => F.run outer s H args us vs Q E he hb hv (h _ _ _ _ hs)⟩
section
variable {P : Program} {W : World} {K : PySem.W.Frag} {mg : Str → Option Value} {base : Heap}
theorem FnAt.cut {A : Around} {f : Addr} {fd : FuncData} {ps : List Str} {n : Nat} {F : FM} (h : FnAt A P W K mg base CX0 f fd ps (spF K W n F)) : FnAt A P W K mg base CX0 f fd ps (spF K W n (cutF F)) :=
  h.imp fun _ _ _ _ => spF_cut
theorem fnAt_ok {A : Around} {x qual : Str} {st : Stmt} {f : Addr} {fd : FuncData} {N ps : List Str} {k : Nat} {m : SM} (F : Fun K x qual st f fd) (S : FnScope N ps (defScope st)) (hR : Room (k + 1) A)
    (hb : ∀ (cdv : Value) (outer : List Env) (s : Shared) (H : Hp) (E : XK), Room k (A.deeper (envOfC qual (defScope st) s.heap.objs.size f cdv)) →
      RSs (cxOf CX0 P W K mg base N qual (defScope st) f cdv A outer s H E).nox (defBody st) m) : FnAt A P W K mg base CX0 f fd ps (spF K W ps.length (body N.length m)) := by
  obtain ⟨oc, od, kV, doc, pm, an, cdv, ct, osl, rfl, lk, hcd⟩ := F.ex
  have len : ∀ vs H Q E, spF K W ps.length (body N.length m) vs H Q E → vs.length = ps.length := fun vs H Q E h => by
    obtain ⟨w, ds, d, M', _, _, r, hl, _⟩ := h
    rw [r.length, hl]
  refine ⟨len, fun outer s H args us vs Q E e0 hbi r hsp => ?_⟩
  have hl := len _ _ _ _ hsp
  have KX : K.In s.heap := e0.mod.kin.keeps fun b o e => (e0.bs b o e).1
  have lim : s.heap.NoLimit := e0.mod.nolimit.keeps fun b o e => (e0.bs b o e).1
  have hkind : ∀ y ∈ ps.zip us, (defScope st).names.lookup y.1 = some .local ∨ ((defScope st).names.lookup y.1 = some .cell ∧ ((cellsFrom (s.heap.objs.size + 1) (defScope st).names []).lookup y.1).isSome = true) := fun ⟨n, v⟩ hy => by
    rcases S.par n (List.of_mem_zip hy).1 with q | q
    · exact .inl q
    · exact .inr ⟨q, PySem.W.cellsFrom_some _ _ _ (.inl q)⟩
  refine codeAny_call_function hR.depth (KX _ _ lk) rfl S.co S.gen rfl (PySem.W.codeRec_of KX hcd) (hbi _ _ _ _ ?_)
  refine wpAny_newFunctionEnv_cells S.kind hkind fun env he s1 x => ?_
  subst he
  refine ⟨lim.keeps x.toInCall.keep, codeAny_func ?_⟩
  have hrun : ∃ t, PSs (cxOf CX0 P W K mg base N qual (defScope st) f cdv A outer s H E) (defBody st) t ∧ t { nx := fun _ H' => Q .non H', rt := Q } (L2.start N vs) H := by
    have h0 := hb cdv outer s H E (hR.deeper _)
    refine ⟨_, PSs.nox h0, ?_⟩
    obtain ⟨w, ds, d, M', rfl, ok, r, hl, hm, f⟩ := hsp
    unfold body at hm
    split at hm
    · rename_i d1 e1 M1 h1
      cases hm
      refine ⟨w, _, _, _, _, rfl, ok, envR_start r, h1, fun w1 hM1 ok1 x1 v rv => f w1 v hM1 ok1 x1 rv⟩
    · rename_i e1 M1 h1
      cases hm
      refine ⟨w, _, _, _, _, rfl, ok, envR_start r, h1, fun w1 hM1 ok1 x1 σ1 _ => f w1 _ hM1 ok1 x1 .non⟩
    · cases hm
  obtain ⟨t, ht, hq⟩ := hrun
  have I : Inv (cxOf CX0 P W K mg base N qual (defScope st) f cdv A outer s H E) [] (L2.start N vs) H s1 := inv_start S hR.hd e0 hl r x
  refine wpAny_mono (ht.run [] s1 (L2.start N vs) H _ I hq) (fun fl s' hs => ?_) fun e s' hs => hs
  have fin : ∀ {σ' : L2.St} {H' : Hp} {v : V} {u : Value}, Inv (cxOf CX0 P W K mg base N qual (defScope st) f cdv A outer s H E) [] σ' H' s' → RelV v u → Q v H' → CE outer P W H s Q u s' :=
    fun {σ' H' v u} J rv q => ⟨v, H', J.os, J.bare, J.base, J.hok, rv, q⟩
  cases fl with
  | ret u =>
    obtain ⟨v, σ', H', J, rv, q⟩ := hs
    exact fin J rv q
  | next =>
    obtain ⟨σ', H', J, q⟩ := hs
    exact fin (v := V.non) (u := Value.none) J rfl q
  | brk =>
    obtain ⟨_, _, _, q⟩ := hs
    exact False.elim q
  | cont =>
    obtain ⟨_, _, _, q⟩ := hs
    exact False.elim q
end
/-- the law's call, the law's def known at that place alone -/
theorem law_callAt {P : Program} {w : World} {K : PySem.W.Frag} {mg mb : Str → Option Value} {CX : CXT} {fa a : Addr} {fd : FuncData} {x : Str} {sp : Sp} {s₁ : Shared} {vs : List Value} {ns : List Int}
    (KX : K.In s₁.heap) (hns : s₁.heap.Ns mainGlobals mg) (hb : s₁.heap.Ns builtinsNs mb) (hbb : ∀ x : Str, x ≠ "__name__" → mb x = bootBuiltins x) (hlim : s₁.heap.NoLimit) (hg : s₁.gens = #[])
    (ha : s₁.heap.get? a = some { cls := .type "list", data := .seq vs.toArray }) (hi : IntsAre vs ns) (hl : ns.length ≤ sizeLine)
    (F : ∀ base : Heap, K.In base → base.Ns mainGlobals mg → FnAt callerA P w K mg base CX fa fd [x] sp) (hbind : ∀ (s : Shared) (u : Value), BindsTo s fd ⟨[u], []⟩ [(x, u)])
    (hsp : ∀ H : Hp, Only H → SqL K H a (ns.map V.int) → sp [.ref a] H (fun v _ => v = .bl true) fun _ _ _ => False)
    (hCX : ∀ H e s', CX [] H s₁ (fun _ _ _ => False) e s' → False) :
    codeAny (model P w) callerA (.call (.ref fa) ⟨[.ref a], []⟩) (fun r s' => r = .ok (.ret (.bool true)) ∧ OldK s₁.heap s'.heap ∧ s'.os = s₁.os ∧ AllBare s'.gens) s₁ := by
  have rv := vals_ints hi
  have lenV := hi.length
  have core : ∀ H : Hp, Only H → SqL K H a (ns.map V.int) → HOk P w H s₁.heap → (∀ b, H b ≠ none → b = a) → (H a ≠ none → K.lookup a = none) →
      codeAny (model P w) callerA (.call (.ref fa) ⟨[.ref a], []⟩) (fun r s' => r = .ok (.ret (.bool true)) ∧ OldK s₁.heap s'.heap ∧ s'.os = s₁.os ∧ AllBare s'.gens) s₁ := by
    intro H hO hS hok hA hK
    have at_a : ∀ {b : Addr} {u : HO}, H b = some u → b = a := fun {b u} q => hA b (by rw [q]; simp)
    have base_of : ∀ {b : Addr} {o : Obj}, s₁.heap.get? b = some o → H b = none → (hidT s₁.heap H).get? b = some o := fun e n => hidT_get e n
    have noA : ∀ {b : Addr} {o : Obj} {es : Array DictEntry} {ep : Nat}, s₁.heap.get? b = some o → o.data = .dict es ep → H b = none := fun {b o es ep} e d => by
      cases q : H b with
      | none => rfl
      | some u =>
        obtain rfl := at_a q
        rw [ha] at e; cases e
        have d' : Data.seq vs.toArray _ = Data.dict es ep := d
        cases d'
    have nsK : ∀ {b : Addr} {m : Str → Option Value}, s₁.heap.Ns b m → (hidT s₁.heap H).Ns b m := fun {b m} ⟨o, es, ep, e, d, r⟩ => ⟨o, es, ep, base_of e (noA e d), d, r⟩
    have hKb : K.In (hidT s₁.heap H) := fun b o e => base_of (KX b o e) (by
      cases q : H b with
      | none => rfl
      | some u =>
        obtain rfl := at_a q
        rw [hK (by rw [q]; simp)] at e; cases e)
    have hM : Mod K mg (hidT s₁.heap H) := ⟨hKb, nsK hns, ⟨mb, nsK hb, hbb⟩, let ⟨mc, h1, h2⟩ := hlim; ⟨mc, nsK h1, h2⟩⟩
    have e0 : Env0 P w K mg (hidT s₁.heap H) callerA [] s₁ H := ⟨rfl, hM, fun b o e => of_hidT e, Nat.le_of_eq (hidT_size _ _), trivial, fun b hb => absurd (show b ∈ ([] : List Addr) from hb) (by simp), hok, .of_eq hg⟩
    refine codeAny_mono ((F _ hKb (nsK hns)).run [] s₁ H ⟨[.ref a], []⟩ [.ref a] [.ref a] _ _ e0 (hbind s₁ (.ref a)) (.cons rfl .nil) (hsp H hO hS)) fun r s' h => ?_
    cases r with
    | error e => exact (hCX H e s' h).elim
    | ok fl =>
      cases fl with
      | next => exact False.elim h
      | brk => exact False.elim h
      | cont => exact False.elim h
      | ret u =>
        obtain ⟨v, H', os, bare, un, hok', r', q⟩ := h
        have q' : v = .bl true := q
        subst q'
        obtain rfl : u = Value.bool true := r'
        refine ⟨rfl, OldK.of_keep fun b o e => ?_, os, bare⟩
        cases q : H b with
        | none => exact un.keep b o e q (by intro z; exact absurd (show b ∈ ([] : List Addr) from z) (by simp)) (by simp)
        | some u =>
          rcases hO b with z | ⟨ob, xs, z⟩
          · rw [q] at z; cases z
          · have z2 := un.frzs b ob _ z
            obtain ⟨e1, _⟩ := hok b _ z
            obtain ⟨e2, _⟩ := hok' b _ z2
            rw [e] at e1; cases e1
            exact e2
  cases hk : K.lookup a with
  | some o =>
    have e := KX a o hk
    rw [ha] at e
    cases e
    refine core (fun _ => none) (fun _ => .inl rfl) (.inr ⟨_, vs.toArray, _, hk, rfl, rfl, rfl, by rw [List.size_toArray, lenV]; exact hl, by simpa using rv⟩) (fun b u z => by have z' : (none : Option HO) = some u := z; cases z') (fun b z => absurd rfl z) fun z => absurd rfl z
  | none =>
    refine core (fun b => if b = a then some (.frz { cls := .type "list", data := .seq vs.toArray } (.lst (ns.map V.int))) else none) (fun b => ?_) (.inl (.inr ⟨{ cls := .type "list", data := .seq vs.toArray }, if_pos rfl⟩)) (fun b u z => ?_) (fun b z => ?_) fun _ => hk
    · by_cases hb : b = a
      · exact .inr ⟨_, _, if_pos hb⟩
      · exact .inl (if_neg hb)
    · by_cases hb : b = a
      · have z' := (if_pos hb).symm.trans z
        cases z'
        subst hb
        exact ⟨ha, by rw [List.length_map]; exact hl, vs, _, rv, ha⟩
      · have z' := (if_neg hb).symm.trans z
        cases z'
    · by_cases hb : b = a
      · exact hb
      · exact absurd (if_neg hb) z
theorem law_walkAt {ι : Type} [Inhabited ι] {l : PySem.W.OpenLaw} {q : Program} {loose : List Str} {XP : (Str → Option Value) → Heap → Prop} {YP : World → Heap → Prop} {d : DefRec} {K : Params → PySem.W.Frag} {F : ι → FM} (hn : l.most = some 63) (hdf : d.params.defaults = [])
    (hF : ∀ (c : ι) (ns : List Int), ns.length ≤ 63 → ∃ M', F c [.lsk (ns.map .int)] [] = some (.bl true, M'))
    (hY : ∀ (w : World) (h : Heap), YP w h → (K w.params).In h)
    (G : ∀ (w : World) (mg : Str → Option Value) (fa : Addr) (h : Heap), (K w.params).In h → h.Ns mainGlobals mg → mg d.name = some (.ref fa) →
      ∃ fd : FuncData, (∀ (s : Shared) (u : Value), BindsTo s fd ⟨[u], []⟩ [("script", u)]) ∧ ∀ base : Heap, (K w.params).In base → base.Ns mainGlobals mg → FnAt callerA l.prog w (K w.params) mg base CX0 fa fd ["script"] (spC (K w.params) w 1 F)) :
    PySem.W.WalkO q loose XP YP l.row.toRowW d [] (fun f vs => PySem.call f vs) := by
  refine Att.attach_call hn hdf fun w s₀ s₁ mg mb fa o pm cd doc a vs ns Gg Y ho hd hcd hmg hobj hints hlen hg => ?_
  have KX := hY w _ Y
  obtain ⟨fd, hb, hFn⟩ := G w mg fa _ KX Gg.T.g hmg
  refine law_callAt KX Gg.T.g Gg.T.b Gg.T.builtins Gg.T.nolimit hg hobj hints (Nat.le_trans hlen (by decide)) hFn hb (fun H hO hS c => ?_) fun _ _ _ z => z
  obtain ⟨M', hm⟩ := hF c ns hlen
  have hI : ImL (K w.params) H a (ns.map V.int) := by
    rcases hS with (h | h) | h
    · rcases hO a with z | ⟨o, xs, z⟩
      · rw [z] at h; cases h
      · rw [z] at h; cases h
    · exact .inl h
    · exact .inr h
  have hv : ∀ {w0 : Ws} (ns : List Int), Dvs (K w.params) w w0 (ns.map V.int) (ns.map Dt.int) := fun {w0} ns => by
    induction ns with
    | nil => exact .nil
    | cons n ns ih => exact .cons (.int n) ih
  refine ⟨⟨[], [], H, []⟩, [.lsk (ns.map .int)], .bl true, M', rfl, ⟨rfl, List.nodup_nil, (fun a h => absurd h (by simp)), (fun a h => absurd h (by simp)), fun i a c h => by simp at h⟩, .cons (.lstK hI (hv ns)) .nil, rfl, hm, fun w' v _ _ _ r => ?_⟩
  cases r
  rfl
end DL
/-! The data layer, part p: rules by which the plain functions are worked out. -/
namespace Ev
open PySem PySem.Spec PyProof.Rows L2 DL
section
variable {e e1 e2 : Sl} {M M1 M2 M3 : Mem} {d d1 d2 x y : Dt} {ds ds2 : List Dt} {a b c m : EM} {t t2 : TM} {am : AM} {i j : Nat} {c1 c2 : Bool}
theorem v_set0 {α : Type} {x y : α} {l : List α} : (x :: l).set 0 y = y :: l := rfl
theorem v_setS {α : Type} {x y : α} {l l' : List α} {n : Nat} (h : l.set n y = l') : (x :: l).set (n + 1) y = x :: l' := by rw [List.set_cons_succ, h]
theorem v_wp0 : wipeS e [] = e := rfl
theorem v_wpS {vs : List Nat} (h : wipeS e vs = e1) (h2 : e1.set i none = e2) : wipeS e (i :: vs) = e2 := by rw [wipeS, h, h2]
theorem v_var (h : e[i]? = some (some d)) : varE i e M = some (d, M) := by unfold varE; rw [h]
theorem v_c : cE d e M = some (d, M) := rfl
theorem v_op {g : Dt → Dt → Mem → Option (Dt × Mem)} {r : Option (Dt × Mem)} (h : a e M = some (x, M1)) (h2 : b e M1 = some (y, M2)) (h3 : g x y M2 = r) : opE g a b e M = r := by simp only [opE, h, h2, thn1_some, h3]
theorem v_pure2 {g : Dt → Dt → Option Dt} (h : g x y = some d) : pure2 g x y M = some (d, M) := by simp only [pure2, h, pur_some]
theorem v_un {g : Dt → Option Dt} (h : a e M = some (x, M1)) (h2 : g x = some d) : unE g a e M = some (d, M1) := by simp only [unE, h, thn1_some, h2, pur_some]
theorem v_bl (h : m e M = some (.bl c1, M1)) : blT m e M = some (c1, M1) := by simp only [blT, h, thn1_some]
theorem v_tru (h : m e M = some (d, M1)) (h2 : truthD M1 d = some c1) : truT m e M = some (c1, M1) := by simp only [truT, h, thn1_some, h2, pur_some]
theorem v_truB : truthD M (.bl c1) = some c1 := rfl
theorem v_notF (h : t e M = some (true, M1)) : notT t e M = some (false, M1) := by simp only [notT, h, thn1_some, Bool.not_true]
theorem v_not (h : t e M = some (c1, M1)) : notT t e M = some (!c1, M1) := by simp only [notT, h, thn1_some]
/-- an if's rest -/
def cond' {α : Type} (c : Bool) (x y : α) : α := if c = true then x else y
theorem cond_t {α : Type} {x y r : α} (h : x = r) : cond' true x y = r := by unfold cond'; rw [if_pos rfl]; exact h
theorem cond_f {α : Type} {x y r : α} (h : y = r) : cond' false x y = r := by unfold cond'; rw [if_neg (by decide)]; exact h
theorem cond_nt {α : Type} {x y r : α} (h : y = r) : cond' (!true) x y = r := cond_f h
theorem cond_nf {α : Type} {x y r : α} (h : x = r) : cond' (!false) x y = r := cond_t h
theorem v_and {r : Option (Bool × Mem)} (h : t e M = some (c1, M1)) (h2 : cond' c1 (t2 e M1) (some (false, M1)) = r) : andT t t2 e M = r := by simp only [andT, h, thn1_some]; exact h2
theorem v_or {r : Option (Bool × Mem)} (h : t e M = some (c1, M1)) (h2 : cond' c1 (some (true, M1)) (t2 e M1) = r) : orT t t2 e M = r := by simp only [orT, h, thn1_some]; exact h2
theorem v_andE {r : Option (Dt × Mem)} (h : a e M = some (.bl c1, M1)) (h2 : cond' c1 (b e M1) (some (.bl false, M1)) = r) : andE a b e M = r := by simp only [andE, h, thn1_some]; cases c1 <;> exact h2
theorem v_orE {r : Option (Dt × Mem)} (h : a e M = some (.bl c1, M1)) (h2 : cond' c1 (some (.bl true, M1)) (b e M1) = r) : orE a b e M = r := by simp only [orE, h, thn1_some]; cases c1 <;> exact h2
theorem v_ifE {r : Option (Dt × Mem)} (h : t e M = some (c1, M1)) (h2 : cond' c1 (a e M1) (b e M1) = r) : ifE t a b e M = r := by simp only [ifE, h, thn1_some]; exact h2
theorem v_if {s1 s2 : SM} {r : Option (Fl × Sl × Mem)} (h : t e M = some (c1, M1)) (h2 : cond' c1 (s1 e M1) (s2 e M1) = r) : ifS t s1 s2 e M = r := by simp only [ifS, h, thn1_some]; exact h2
theorem v_nilA : nilA e M = some ([], M) := rfl
theorem v_consA (h : a e M = some (x, M1)) (h2 : am e M1 = some (ds, M2)) : consA a am e M = some (x :: ds, M2) := by simp only [consA, h, h2, thn1_some]
theorem v_tup (h : am e M = some (ds, M1)) (h2 : ds.length ≤ sizeLine) : tupE am e M = some (.tup ds, M1) := by simp only [tupE, h, thn1_some]; rw [if_pos h2]
theorem v_lst (h : am e M = some (ds, M1)) (h2 : ds.length ≤ sizeLine) : lstE am e M = some (.lst ds, M1) := by simp only [lstE, h, thn1_some]; rw [if_pos h2]
theorem v_lstC (h : am e M = some (ds, M1)) (h2 : ds.length ≤ sizeLine) : lstC am e M = some (.ref M1.length, M1 ++ [some (.lst ds)]) := by simp only [lstC, h, thn1_some]; rw [if_pos h2]
theorem v_call {F : FM} {r : Option (Dt × Mem)} (h : am e M = some (ds, M1)) (h2 : F ds M1 = r) : callE F am e M = r := by simp only [callE, h, thn1_some, h2]
theorem v_pureF {g : List Dt → Option Dt} (h : g ds = some d) : pureF g ds M = some (d, M) := by simp only [pureF, h, pur_some]
/-- what follows a statement -/
def seqK (f : Fl) (b : SM) (e : Sl) (M : Mem) : Option (Fl × Sl × Mem) := match f with
  | .nx => b e M
  | f => some (f, e, M)
theorem v_seq {s1 s2 : SM} {f : Fl} {r : Option (Fl × Sl × Mem)} (h : s1 e M = some (f, e1, M1)) (h2 : seqK f s2 e1 M1 = r) : seqS s1 s2 e M = r := by
  unfold seqS
  rw [h]
  cases f <;> exact h2
theorem k_nx {s : SM} {r : Option (Fl × Sl × Mem)} (h : s e M = r) : seqK .nx s e M = r := h
theorem k_rt {s : SM} : seqK (.rt d) s e M = some (.rt d, e, M) := rfl
theorem k_bk {s : SM} : seqK .bk s e M = some (.bk, e, M) := rfl
theorem k_ct {s : SM} : seqK .ct s e M = some (.ct, e, M) := rfl
theorem v_nx : nxS e M = some (.nx, e, M) := rfl
theorem v_bk : bkS e M = some (.bk, e, M) := rfl
theorem v_ct : ctS e M = some (.ct, e, M) := rfl
theorem v_set (h : m e M = some (d, M1)) (h2 : e.set i (some d) = e1) : setS i m e M = some (.nx, e1, M1) := by simp only [setS, h, thn1_some, h2]
theorem v_ex (h : m e M = some (d, M1)) : exS m e M = some (.nx, e, M1) := by simp only [exS, h, thn1_some]
theorem v_rt (h : m e M = some (d, M1)) : rtS m e M = some (.rt d, e, M1) := by simp only [rtS, h, thn1_some]
theorem v_asg {g : GM} (h : m e M = some (d, M1)) (h2 : g d e M1 = some (e1, M2)) : asgS m g e M = some (.nx, e1, M2) := by simp only [asgS, h, thn1_some, h2]
theorem v_nameG (h : e.set i (some d) = e1) : nameG i d e M = some (e1, M) := by simp only [nameG, h]
theorem v_nilG : nilG [] e M = some (e, M) := rfl
theorem v_consG {g : GM} {r : GsM} {o : Option (Sl × Mem)} (h : g d e M = some (e1, M1)) (h2 : r ds e1 M1 = o) : consG g r (d :: ds) e M = o := by simp only [consG, h, h2]
theorem v_tupG {g : GsM} {n : Nat} {o : Option (Sl × Mem)} (h : ds.length = n) (h2 : g ds e M = o) : tupG n g (.tup ds) e M = o := by simp only [tupG, if_pos h, h2]
theorem v_subG {mo mi : EM} (h : mo e M = some (x, M1)) (h2 : mi e M1 = some (y, M2)) (h3 : storeD M2 x y d = some M3) : subG mo mi d e M = some (e, M3) := by simp only [subG, h, h2, thn1_some, h3, Option.map_some]
theorem v_frz (h : m e M = some (x, M1)) (h2 : frzD M1 x = some (d, M2)) : frzE m e M = some (d, M2) := by simp only [frzE, h, thn1_some, h2]
theorem v_frzD {n : Nat} {cc : Dt} (h : M[n]? = some (some cc)) : frzD M (.ref n) = some (cc, M.set n none) := by simp only [frzD, h]
theorem v_new : newDict e M = some (.ref M.length, M ++ [some (.dic [] [])]) := rfl
theorem v_for {it : IM} {g : GM} {s : SM} {src : Src} {r : Option (Fl × Sl × Mem)} (h : it e M = some (src, M1)) (h2 : loopS src.gd g s src.its e M1 = r) : forS it g s e M = r := by simp only [forS, h, thn1_some, h2]
theorem v_lc {it : IM} {tg : Tgt} {cc : TM} {el : EM} {vs : List Nat} {src : Src} (h : it e M = some (src, M1)) (h2 : wipeS e vs = e1) (h3 : lcL src.gd tg cc el e1 src.its [] M1 = some (ds, M2)) : lcE it tg cc el vs e M = some (.lst ds, M2) := by
  simp only [lcE, h, thn1_some, h2, h3]
theorem v_seqI {src : Src} (h : m e M = some (d, M1)) (h2 : itemsOf M1 d = some src) : seqI m e M = some (src, M1) := by simp only [seqI, h, thn1_some, h2, pur_some]
theorem v_itT : itemsOf M (.tup ds) = some ⟨ds, fun _ => True⟩ := rfl
theorem v_itL : itemsOf M (.lst ds) = some ⟨ds, fun _ => True⟩ := rfl
theorem v_itK : itemsOf M (.lsk ds) = some ⟨ds, fun _ => True⟩ := rfl
theorem v_itS {z : Str} : itemsOf M (.str z) = some ⟨z.cps.toList.map fun c => .str ⟨#[c]⟩, fun _ => True⟩ := rfl
theorem v_rng {src : Src} (h : am e M = some (ds, M1)) (h2 : rngD ds = some src) : rngI am e M = some (src, M1) := by
  unfold rngI
  rw [h]
  show pur (rngD ds) M1 = _
  rw [h2]
  rfl
/-- the ints 0 .. n - 1 as data -/
def nums (n : Nat) : List Dt := (List.range n).map fun i => .int (i : Nat)
theorem nums_eq (n : Nat) : (List.range (n : Int).toNat).map (fun i => Dt.int (0 + (i : Nat))) = nums n := by
  unfold nums
  rw [Int.toNat_natCast]
  exact List.map_congr_left fun i _ => by rw [Int.zero_add]
theorem v_rngD {n : Nat} (h : n < 1000000) : rngD [.int (n : Nat)] = some ⟨nums n, fun _ => True⟩ := by
  have h1 : -(2 ^ 62) ≤ ((n : Nat) : Int) ∧ ((n : Nat) : Int) < 2 ^ 62 := by omega
  simp only [rngD]
  rw [if_pos h1, nums_eq]
theorem v_sl {lo hi : OM} {l u : Option Int} (h : a e M = some (x, M1)) (h2 : lo e M1 = some (l, M2)) (h3 : hi e M2 = some (u, M3)) (h4 : slD M3 x l u = some d) : slE a lo hi e M = some (d, M3) := by simp only [slE, h, h2, h3, thn1_some, h4, pur_some]
theorem v_noO : noO e M = some (none, M) := rfl
theorem v_someO {n : Int} (h : a e M = some (.int n, M1)) : someO a e M = some (some n, M1) := by simp only [someO, h, thn1_some]
theorem v_fld {C : Addr} {f : Str} {ns : List Str} {vs : List Dt} (h : m e M = some (x, M1)) (h2 : objAt M1 x = some (C, ns, vs)) (h3 : getN f ns vs = some d) : fldE C f m e M = some (d, M1) := by
  simp only [fldE, h, thn1_some, h2, h3, if_true, pur_some]
theorem v_mt {ty : Mem → Dt → Bool} {g : Dt → List Dt → Mem → Option (Dt × Mem)} {r : Option (Dt × Mem)} (h : m e M = some (x, M1)) (h2 : ty M1 x = true) (h3 : am e M1 = some (ds, M2)) (h4 : g x ds M2 = r) : mtE ty g m am e M = r := by
  simp only [mtE, h, thn1_some, if_pos h2, h3, h4]
theorem v_addI {p q : Int} : addD (.int p) (.int q) = some (.int (p + q)) := rfl
theorem v_subI {p q : Int} : subD (.int p) (.int q) = some (.int (p - q)) := rfl
theorem v_negI {p : Int} : negD (.int p) = some (.int (-p)) := rfl
theorem v_isD {ks vs : List Dt} : isD M (.dic ks vs) = true := rfl
theorem v_len {n : Nat} (h : lenD M d = some n) : lenF [d] M = some (.int n, M) := by simp only [lenF, h, Option.map_some, pur_some]
theorem v_lenL : lenD M (.lst ds) = some ds.length := rfl
theorem v_lenT : lenD M (.tup ds) = some ds.length := rfl
theorem v_gtI {p q : Int} : gtI (.int p) (.int q) = some (.bl (decide (p > q))) := rfl
theorem v_leI {p q : Int} : leI (.int p) (.int q) = some (.bl (decide (p ≤ q))) := rfl
theorem v_ltI {p q : Int} : ltD (.int p) (.int q) M = some (.bl (decide (p < q)), M) := rfl
theorem v_eq (h : eqO M x y = some c1) : eqD x y M = some (.bl c1, M) := by simp only [eqD, h, Option.map_some, pur_some]
theorem v_ne (h : eqO M x y = some c1) : neD x y M = some (.bl (!c1), M) := by simp only [neD, h, Option.map_some, pur_some]
theorem v_in (h : inO M x y = some c1) : inD x y M = some (.bl c1, M) := by simp only [inD, h, Option.map_some, pur_some]
theorem v_notIn (h : inO M x y = some c1) : notInD x y M = some (.bl (!c1), M) := by simp only [notInD, h, Option.map_some, pur_some]
theorem v_eqI {p q : Int} : eqO M (.int p) (.int q) = some (decide (p = q)) := eqO_int M p q
theorem v_notInT (h : inO M x y = some false) : notInD x y M = some (.bl true, M) := by rw [v_notIn h]; rfl
theorem v_notInF (h : inO M x y = some true) : notInD x y M = some (.bl false, M) := by rw [v_notIn h]; rfl
theorem v_neT (h : eqO M x y = some false) : neD x y M = some (.bl true, M) := by rw [v_ne h]; rfl
theorem v_neF (h : eqO M x y = some true) : neD x y M = some (.bl false, M) := by rw [v_ne h]; rfl
/-- seq[i] -/
theorem v_ix {n : Nat} (h1 : dictAt M x = none) (h2 : seqAt M x = some ds) (h3 : ds[n]? = some d) (h4 : ∀ z, x ≠ .str z) : ixA x (.int (n : Nat)) M = some (d, M) := by
  have h5 : L2.atI ds (n : Int) = some d := at_nat (Int.natCast_nonneg n) (by simpa using h3)
  unfold ixA
  rw [h1]
  cases x with
  | str z => exact absurd rfl (h4 z)
  | _ => simp only [ixD, h2, Option.bind_some, h5, pur_some]
theorem v_ixT {n : Nat} (h3 : ds[n]? = some d) : ixA (.tup ds) (.int (n : Nat)) M = some (d, M) := v_ix rfl rfl h3 fun _ z => by cases z
theorem v_ixL {n : Nat} (h3 : ds[n]? = some d) : ixA (.lst ds) (.int (n : Nat)) M = some (d, M) := v_ix rfl rfl h3 fun _ z => by cases z
theorem v_body {n : Nat} {s : SM} {f : Fl} {e' : Sl} (h : ds.map some ++ List.replicate (n - ds.length) none = e) (h2 : s e M = some (.rt d, e', M1)) : body n s ds M = some (d, M1) := body_rt (by rw [h]; exact h2)
theorem v_tup' (h : am e M = some (ds, M1)) (h2 : ds.length ≤ 1000) : tupE am e M = some (.tup ds, M1) := v_tup h (by rw [sizeLine_eq]; omega)
theorem v_lst' (h : am e M = some (ds, M1)) (h2 : ds.length ≤ 1000) : lstE am e M = some (.lst ds, M1) := v_lst h (by rw [sizeLine_eq]; omega)
theorem v_lstC' (h : am e M = some (ds, M1)) (h2 : ds.length ≤ 1000) : lstC am e M = some (.ref M1.length, M1 ++ [some (.lst ds)]) := v_lstC h (by rw [sizeLine_eq]; omega)
theorem v_eqIt {p q : Int} (h : p = q) : eqO M (.int p) (.int q) = some true := by rw [v_eqI, decide_eq_true h]
theorem v_eqIf {p q : Int} (h : p ≠ q) : eqO M (.int p) (.int q) = some false := by rw [v_eqI, decide_eq_false h]
theorem v_ltIt {p q : Int} (h : p < q) : ltD (.int p) (.int q) M = some (.bl true, M) := by rw [v_ltI, decide_eq_true h]
theorem v_ltIf {p q : Int} (h : ¬ p < q) : ltD (.int p) (.int q) M = some (.bl false, M) := by rw [v_ltI, decide_eq_false h]
theorem v_leIt {p q : Int} (h : p ≤ q) : leI (.int p) (.int q) = some (.bl true) := by rw [v_leI, decide_eq_true h]
theorem v_leIf {p q : Int} (h : ¬ p ≤ q) : leI (.int p) (.int q) = some (.bl false) := by rw [v_leI, decide_eq_false h]
theorem v_gtIt {p q : Int} (h : p > q) : gtI (.int p) (.int q) = some (.bl true) := by rw [v_gtI, decide_eq_true h]
theorem v_gtIf {p q : Int} (h : ¬ p > q) : gtI (.int p) (.int q) = some (.bl false) := by rw [v_gtI, decide_eq_false h]
/-- texts -/
theorem v_eqS {z z2 : Str} (h : eqO [] (.str z) (.str z2) = some c1) : eqO M (.str z) (.str z2) = some c1 := h
theorem v_inT {z : Str} (h : inO [] (.str z) (.tup ds) = some c1) : inO M (.str z) (.tup ds) = some c1 := h
theorem v_inL {z : Str} (h : inO [] (.str z) (.lst ds) = some c1) : inO M (.str z) (.lst ds) = some c1 := h
theorem v_chain {g g' : Dt → Dt → Mem → Option (Dt × Mem)} {r : Option (Dt × Mem)} (h : a e M = some (x, M1)) (h2 : b e M1 = some (y, M2)) (h3 : g x y M2 = some (.bl c1, M3)) (h4 : cond' c1 (thn1 (c e M3) fun z M4 => g' y z M4) (some (.bl false, M3)) = r) : chainE g g' a b c e M = r := by
  simp only [chainE, h, h2, thn1_some, h3]
  cases c1 <;> exact h4
theorem v_thn {α β : Type} {o : Option (α × Mem)} {f : α → Mem → Option β} {z : α} {r : Option β} (h : o = some (z, M)) (h2 : f z M = r) : thn1 o f = r := by rw [h]; exact h2
end
end Ev
/-! The data layer, part q: keys, comprehensions and loops worked out. -/
namespace Ev
open PySem PySem.Spec PyProof.Rows L2 DL
theorem txKs_iff : ∀ {ks : List NestedKey}, txKs ks = true ↔ ∀ k ∈ ks, txK k = true
  | [] => by simp [txKs]
  | k :: ks => by rw [txKs, Bool.and_eq_true, txKs_iff]; simp
theorem depthAll_le {n : Nat} : ∀ {ks : List NestedKey}, NestedKey.depthAll ks ≤ n ↔ ∀ k ∈ ks, k.depth ≤ n
  | [] => by simp [NestedKey.depthAll]
  | k :: ks => by rw [NestedKey.depthAll, Nat.max_le, depthAll_le]; simp
/-- a key that compares -/
structure Kx (k : NestedKey) : Prop where
  tx : txK k = true
  dp : k.depth ≤ 60
theorem Kx.num {i : Int} : Kx (.num i) := ⟨rfl, Nat.zero_le _⟩
theorem Kx.none : Kx .none := ⟨rfl, Nat.zero_le _⟩
theorem Kx.parts {ks : List NestedKey} (h : Kx (.tup ks)) : ∀ k ∈ ks, Kx k := fun k hk => by
  obtain ⟨h1, h2⟩ := h
  rw [txK] at h1
  rw [NestedKey.depth] at h2
  exact ⟨txKs_iff.mp h1 k hk, Nat.le_trans (depthAll_le.mp (Nat.le_refl _) k hk) (by omega)⟩
theorem eqO_k {M : Mem} {a b : NestedKey} (ha : Kx a) (hb : Kx b) : eqO M (toD a) (toD b) = some (decide (a = b)) := eqO_toD ha.tx hb.tx (Nat.le_trans ha.dp (by decide)) (Nat.le_trans hb.dp (by decide))
theorem shaped_tup {ks : List NestedKey} (h : ∀ k ∈ ks, Kx k) : SeqAt.shaped (.tuple (NestedKey.datas ks)) = true := by
  have h1 : txK (.tup ks) = true := by rw [txK]; exact txKs_iff.mpr fun k hk => (h k hk).tx
  have h2 : (NestedKey.tup ks).depth ≤ 64 := by
    rw [NestedKey.depth]
    have := depthAll_le.mpr fun k hk => (h k hk).dp
    omega
  exact shaped_data h1 h2
theorem any_datas (a : NestedKey) : ∀ ks : List NestedKey, ((NestedKey.datas ks).any fun z => PyData.eqv z a.data) = decide (a ∈ ks)
  | [] => rfl
  | k :: ks => by
    rw [NestedKey.datas, List.any_cons, any_datas a ks, eqv_data, ← NestedKey.decide_eq]
    rw [Bool.eq_iff_iff, Bool.or_eq_true, decide_eq_true_iff, decide_eq_true_iff, decide_eq_true_iff, List.mem_cons]
    constructor
    · rintro (h | h)
      · exact .inl h.symm
      · exact .inr h
    · rintro (h | h)
      · exact .inl h.symm
      · exact .inr h
theorem inO_k {M : Mem} {a : NestedKey} {b : Dt} {ks : List NestedKey} (hb : ∀ z, b ≠ .str z) (h1 : dictAt M b = none) (h2 : seqAt M b = some (ks.map toD)) (ha : Kx a) (hk : ∀ k ∈ ks, Kx k) : inO M (toD a) b = some (decide (a ∈ ks)) := by
  have e : toPys (ks.map toD) = some (NestedKey.datas ks) := by rw [← toDs_map]; exact toPys_toDs ks
  have hs := shaped_data ha.tx (Nat.le_trans ha.dp (by decide))
  unfold inO
  cases b with
  | str z => exact absurd rfl (hb z)
  | _ => simp only [h1, h2, deref_toD, toPy_toD, e, hs, shaped_tup hk, and_self, if_true, any_datas]
theorem inO_kT {M : Mem} {a : NestedKey} {ks : List NestedKey} (ha : Kx a) (hk : ∀ k ∈ ks, Kx k) : inO M (toD a) (.tup (ks.map toD)) = some (decide (a ∈ ks)) := inO_k (fun _ z => by cases z) rfl rfl ha hk
theorem inO_kL {M : Mem} {a : NestedKey} {ks : List NestedKey} (ha : Kx a) (hk : ∀ k ∈ ks, Kx k) : inO M (toD a) (.lst (ks.map toD)) = some (decide (a ∈ ks)) := inO_k (fun _ z => by cases z) rfl rfl ha hk
theorem inO_kR {M : Mem} {i : Nat} {a : NestedKey} {ks : List NestedKey} (hc : M[i]? = some (some (.lst (ks.map toD)))) (ha : Kx a) (hk : ∀ k ∈ ks, Kx k) : inO M (toD a) (.ref i) = some (decide (a ∈ ks)) :=
  inO_k (fun _ z => by cases z) (by simp only [dictAt, hc]) (by simp only [seqAt, hc]) ha hk

mutual
/-- texts of at most 1000 signs, tuples of at most 10 items -/
def szK : NestedKey → Bool
  | .none => true
  | .num _ => true
  | .text z => decide (z.length ≤ 1000)
  | .tup ks => decide (ks.length ≤ 10) && szKs ks
def szKs : List NestedKey → Bool
  | [] => true
  | k :: ks => szK k && szKs ks
end
theorem szKs_iff : ∀ {ks : List NestedKey}, szKs ks = true ↔ ∀ k ∈ ks, szK k = true
  | [] => by simp [szKs]
  | k :: ks => by rw [szKs, Bool.and_eq_true, szKs_iff]; simp
structure Kz (k : NestedKey) : Prop extends Kx k where
  sz : szK k = true
theorem Kz.text {z : Str} (h : PyData.strOk z = true) (h2 : z.length ≤ 1000) : Kz (.text z) := ⟨⟨h, Nat.zero_le _⟩, by rw [szK, decide_eq_true h2]⟩
theorem Kz.parts' {ks : List NestedKey} (h : Kz (.tup ks)) : ks.length ≤ 10 ∧ ∀ k ∈ ks, Kz k := by
  have h1 := h.sz
  rw [szK, Bool.and_eq_true] at h1
  exact ⟨of_decide_eq_true h1.1, fun k hk => ⟨h.toKx.parts k hk, szKs_iff.mp h1.2 k hk⟩⟩
theorem Kz.txt {z : Str} (h : Kz (.text z)) : PyData.strOk z = true ∧ z.length ≤ 1000 := ⟨h.tx, by have := h.sz; rw [szK] at this; exact of_decide_eq_true this⟩
theorem Kz.tup {ks : List NestedKey} (h1 : ks.length ≤ 10) (h : ∀ k ∈ ks, Kz k) (hd : (NestedKey.tup ks).depth ≤ 60) : Kz (.tup ks) := ⟨⟨by rw [txK]; exact txKs_iff.mpr fun k hk => (h k hk).tx, hd⟩, by rw [szK, decide_eq_true h1]; exact szKs_iff.mpr fun k hk => (h k hk).sz⟩
section
variable {M : Mem} {x y z d : Dt} {l ds : List Dt} {b : Bool} {T : String}
theorem v_ix0 : ixA (.tup (x :: l)) (.int 0) M = some (x, M) := v_ixT (n := 0) rfl
theorem v_ix1 : ixA (.tup (x :: y :: l)) (.int 1) M = some (y, M) := v_ixT (n := 1) rfl
theorem v_ix2 : ixA (.tup (x :: y :: z :: l)) (.int 2) M = some (z, M) := v_ixT (n := 2) rfl
theorem v_ixL0 : ixA (.lst (x :: l)) (.int 0) M = some (x, M) := v_ixL (n := 0) rfl
theorem v_ixL1 : ixA (.lst (x :: y :: l)) (.int 1) M = some (y, M) := v_ixL (n := 1) rfl
theorem cut1 {α : Type} (x : α) (l : List α) : cutL (x :: l) (some 1) none = l := by
  unfold cutL
  have h1 : HT.sIx (x :: l).length 0 (some 1) = 1 := by simp [HT.sIx]
  have h2 : HT.sIx (x :: l).length (x :: l).length none = l.length + 1 := by simp [HT.sIx]
  rw [h1, h2]
  simp
theorem v_sl1 : slD M (.tup (x :: l)) (some 1) none = some (.tup l) := by simp only [slD, cut1]
theorem v_isiT (h : ((tyD M d).bind fun t => kitB t T) = some true) : isiF [d, .ty T] M = some (.bl true, M) := by simp only [isiF, h, Option.map_some, pur_some]
theorem v_isiF (h : ((tyD M d).bind fun t => kitB t T) = some false) : isiF [d, .ty T] M = some (.bl false, M) := by simp only [isiF, h, Option.map_some, pur_some]
theorem v_isi (h : ((tyD M d).bind fun t => kitB t T) = some b) : isiF [d, .ty T] M = some (.bl b, M) := by simp only [isiF, h, Option.map_some, pur_some]
end

/-! ### comprehensions -/
section
variable {gd : Mem → Prop} {i : Nat} {el : EM} {c : TM} {e0 : Sl} {M : Mem}
theorem lc_map {α : Type} (f g : α → Dt) (hg : gd M) : ∀ (xs : List α) (acc : List Dt), (∀ x ∈ xs, el (e0.set i (some (f x))) M = some (g x, M)) → acc.length + xs.length ≤ sizeLine → lcL gd (.one i) yesT el e0 (xs.map f) acc M = some (acc ++ xs.map g, M)
  | [], acc, _, _ => by
    rw [List.map_nil, List.map_nil]
    unfold lcL
    rw [if_pos hg, List.append_nil]
  | x :: xs, acc, h, hl => by
    rw [List.length_cons] at hl
    rw [List.map_cons]
    unfold lcL
    rw [if_pos hg]
    simp only [Tgt.m, yesT, thn1_some, if_true, h x List.mem_cons_self]
    rw [if_pos (by omega), lc_map f g hg xs (acc ++ [g x]) (fun y hy => h y (List.mem_cons_of_mem _ hy)) (by rw [List.length_append, List.length_singleton]; omega)]
    simp
theorem lc_fil {α : Type} (f g : α → Dt) (p : α → Bool) (hg : gd M) : ∀ (xs : List α) (acc : List Dt), (∀ x ∈ xs, c (e0.set i (some (f x))) M = some (p x, M) ∧ (p x = true → el (e0.set i (some (f x))) M = some (g x, M))) → acc.length + xs.length ≤ sizeLine →
    lcL gd (.one i) c el e0 (xs.map f) acc M = some (acc ++ (xs.filter p).map g, M)
  | [], acc, _, _ => by
    rw [List.map_nil, List.filter_nil, List.map_nil]
    unfold lcL
    rw [if_pos hg, List.append_nil]
  | x :: xs, acc, h, hl => by
    rw [List.length_cons] at hl
    obtain ⟨h1, h2⟩ := h x List.mem_cons_self
    rw [List.map_cons]
    unfold lcL
    rw [if_pos hg]
    simp only [Tgt.m, h1, thn1_some]
    cases hp : p x with
    | true =>
      simp only [if_true, h2 hp, thn1_some]
      rw [if_pos (by omega), lc_fil f g p hg xs (acc ++ [g x]) (fun y hy => h y (List.mem_cons_of_mem _ hy)) (by rw [List.length_append, List.length_singleton]; omega), List.filter_cons_of_pos hp]
      simp
    | false =>
      rw [if_neg (by decide), lc_fil f g p hg xs acc (fun y hy => h y (List.mem_cons_of_mem _ hy)) (by omega), List.filter_cons_of_neg (by rw [hp]; decide)]
theorem toBls_map : ∀ bs : List Bool, toBls (bs.map .bl) = some bs
  | [] => rfl
  | b :: bs => by rw [List.map_cons]; simp only [toBls, toBl, toBls_map bs]
theorem all_bl {bs : List Bool} : allF [.lst (bs.map .bl)] M = some (.bl (bs.all id), M) := by simp only [allF, lstAt, Option.bind_some, toBls_map, Option.map_some, pur_some]
end

/-! ### loops -/
theorem loop_rel {gd : Mem → Prop} {g : GM} {b : SM} {α : Type} (f : α → Dt) (P : List α → Sl → Mem → Prop) (B : Sl → Mem → Prop) (R : Dt → Sl → Mem → Prop) {xs : List α} (hgd : ∀ pre e M, P pre e M → gd M)
    (hs : ∀ pre x post e M, xs = pre ++ x :: post → P pre e M → ∃ e1 M1, g (f x) e M = some (e1, M1) ∧ ∃ fl e2 M2, b e1 M1 = some (fl, e2, M2) ∧ (match fl with | .nx => P (pre ++ [x]) e2 M2 | .ct => P (pre ++ [x]) e2 M2 | .bk => B e2 M2 | .rt d => R d e2 M2)) :
    ∀ (post pre : List α) (e : Sl) (M : Mem), xs = pre ++ post → P pre e M → ∃ fl e' M', loopS gd g b (post.map f) e M = some (fl, e', M') ∧ ((fl = .nx ∧ (P xs e' M' ∨ B e' M')) ∨ ∃ d, fl = .rt d ∧ R d e' M')
  | [], pre, e, M, hx, hp => by
    rw [List.append_nil] at hx
    subst hx
    exact ⟨.nx, e, M, by rw [List.map_nil]; unfold loopS; rw [if_pos (hgd _ _ _ hp)], .inl ⟨rfl, .inl hp⟩⟩
  | x :: post, pre, e, M, hx, hp => by
    obtain ⟨e1, M1, h1, fl, e2, M2, h2, h3⟩ := hs pre x post e M hx hp
    have hx2 : xs = (pre ++ [x]) ++ post := by rw [hx]; simp
    rw [List.map_cons]
    unfold loopS
    rw [if_pos (hgd _ _ _ hp), h1]
    simp only [h2]
    cases fl with
    | nx => exact loop_rel f P B R hgd hs post _ e2 M2 hx2 h3
    | ct => exact loop_rel f P B R hgd hs post _ e2 M2 hx2 h3
    | bk => exact ⟨.nx, e2, M2, rfl, .inl ⟨rfl, .inr h3⟩⟩
    | rt d => exact ⟨.rt d, e2, M2, rfl, .inr ⟨d, rfl, h3⟩⟩
/-- .. a loop that goes to its end -/
theorem loop_all {gd : Mem → Prop} {g : GM} {b : SM} {α : Type} (f : α → Dt) (P : List α → Sl → Mem → Prop) {xs : List α} {e : Sl} {M : Mem} (hgd : ∀ pre e M, P pre e M → gd M)
    (hs : ∀ pre x post e M, xs = pre ++ x :: post → P pre e M → ∃ e1 M1, g (f x) e M = some (e1, M1) ∧ ∃ e2 M2, b e1 M1 = some (.nx, e2, M2) ∧ P (pre ++ [x]) e2 M2) (h0 : P [] e M) :
    ∃ e' M', loopS gd g b (xs.map f) e M = some (.nx, e', M') ∧ P xs e' M' := by
  obtain ⟨fl, e', M', h1, h2⟩ := loop_rel (gd := gd) (g := g) (b := b) f P (fun _ _ => False) (fun _ _ _ => False) (xs := xs) hgd (fun pre x post e M hx hp => by
    obtain ⟨e1, M1, h1, e2, M2, h2, h3⟩ := hs pre x post e M hx hp
    exact ⟨e1, M1, h1, .nx, e2, M2, h2, h3⟩) xs [] e M rfl h0
  rcases h2 with ⟨rfl, h2 | h2⟩ | ⟨d, _, h2⟩
  · exact ⟨e', M', h1, h2⟩
  · exact False.elim h2
  · exact False.elim h2
/-! ### a call's end -/
theorem cutF_take {F : FM} {ds : List Dt} {d : Dt} {M t : Mem} (h : F ds M = some (d, M ++ t)) (hd : DL.Cl M.length d) : cutF F ds M = some (d, M) := by
  unfold cutF
  rw [h]
  simp only
  rw [if_pos ⟨hd, fun i c hi hg => .inl (by rw [List.getElem?_append_left hi] at hg; exact hg)⟩]
  simp
theorem fin0 {m : SM} {e0 e : Sl} {M : Mem} {f : Fl} (h : m e0 M = some (f, e, M)) : ∃ e M', m e0 M = some (f, e, M') ∧ ∃ t, M' = M ++ t := ⟨e, M, h, [], (List.append_nil M).symm⟩
theorem fin1 {m : SM} {e0 e : Sl} {M t : Mem} {f : Fl} (h : m e0 M = some (f, e, M ++ t)) : ∃ e M', m e0 M = some (f, e, M') ∧ ∃ t, M' = M ++ t := ⟨e, M ++ t, h, t, rfl⟩
theorem set_last {M : Mem} {x y : Option Dt} : (M ++ [x]).set M.length y = M ++ [y] := by
  rw [List.set_append_right _ _ (Nat.le_refl _), Nat.sub_self]
  rfl
theorem get_last {M : Mem} {x : Option Dt} : (M ++ [x])[M.length]? = some x := List.getElem?_concat_length
theorem fin2 {m : SM} {e0 e : Sl} {M : Mem} {x y : Option Dt} {f : Fl} (h : m e0 M = some (f, e, (M ++ [x]).set M.length y)) : ∃ e M', m e0 M = some (f, e, M') ∧ ∃ t, M' = M ++ t := ⟨e, _, h, [y], set_last⟩
/-- a list in the last cell -/
theorem isL_last {M : Mem} {ds : List Dt} : isL (M ++ [some (.lst ds)]) (.ref M.length) = true := by simp only [isL, lstAt, get_last]; rfl
theorem ext_last {M : Mem} {ds es : List Dt} (h : ds.length + es.length ≤ 100000) : extG (.ref M.length) [.lst es] (M ++ [some (.lst ds)]) = some (.non, M ++ [some (.lst (ds ++ es))]) := by
  simp only [extG, get_last]
  rw [if_pos (by rw [sizeLine_eq]; omega), set_last]
theorem app_last {M : Mem} {ds : List Dt} {d : Dt} (h : ds.length < 100000) : appG (.ref M.length) [d] (M ++ [some (.lst ds)]) = some (.non, M ++ [some (.lst (ds ++ [d]))]) := by
  simp only [appG, get_last]
  rw [if_pos (by rw [sizeLine_eq]; omega), set_last]
end Ev
/-! The data layer, part r: draws worked out. -/
namespace Ev
open PySem PySem.Spec PyProof.Rows L2 DL
/-- a comprehension whose item makes draws -/
theorem lc_dr {gd : Mem → Prop} {i j : Nat} {el : EM} {e0 : Sl} {P : Dt → Prop} (hg : ∀ M, gd M) : ∀ (ds acc : List Dt) (M : Mem), IsSt i M → (∀ d ∈ ds, ∀ M1, Dr i M M1 → ∃ y M2, P y ∧ Dr i M1 M2 ∧ el (e0.set j (some d)) M1 = some (y, M2)) →
    acc.length + ds.length ≤ sizeLine → ∃ ys M', ys.length = ds.length ∧ (∀ y ∈ ys, P y) ∧ Dr i M M' ∧ lcL gd (.one j) yesT el e0 ds acc M = some (acc ++ ys, M')
  | [], acc, M, hs, _, _ => ⟨[], M, rfl, by simp, Dr.refl hs, by unfold lcL; rw [if_pos (hg M), List.append_nil]⟩
  | d :: ds, acc, M, hs, h, hl => by
    rw [List.length_cons] at hl
    obtain ⟨y, M2, p, r, e⟩ := h d List.mem_cons_self M (Dr.refl hs)
    obtain ⟨ys, M', h1, h2, h3, h4⟩ := lc_dr (j := j) (el := el) (e0 := e0) (P := P) hg ds (acc ++ [y]) M2 r.st (fun x hx M1 r1 => h x (List.mem_cons_of_mem _ hx) M1 (r.trans r1)) (by rw [List.length_append, List.length_singleton]; omega)
    refine ⟨y :: ys, M', by rw [List.length_cons, List.length_cons, h1], fun z hz => ?_, r.trans h3, ?_⟩
    · rcases List.mem_cons.mp hz with rfl | hz
      · exact p
      · exact h2 z hz
    · unfold lcL
      rw [if_pos (hg M)]
      simp only [Tgt.m, yesT, thn1_some, if_true, e]
      rw [if_pos (by omega), h4]
      simp
theorem pick_keys {i : Nat} {M : Mem} {ks : List NestedKey} (h : IsSt i M) (h0 : ks ≠ []) (hl : ks.length < 1000) : ∃ k M', k ∈ ks ∧ Dr i M M' ∧ F_pick [.ref i, .lst (ks.map toD)] M = some (toD k, M') := by
  obtain ⟨x, M', h1, h2, h3⟩ := pick_dr (d := .lst (ks.map toD)) (xs := ks.map toD) h (fun _ _ => rfl) rfl (fun z e => by cases e) (fun _ _ => rfl) (by simpa using h0) (by rw [List.length_map]; omega) (by rw [← toDs_map]; exact cls_toDs _ _)
  obtain ⟨k, hk, rfl⟩ := List.mem_map.mp h1
  exact ⟨k, M', hk, h2, h3⟩
/-- a draw of a law -/
theorem draw_k {i : Nat} {M : Mem} (h : IsSt i M) {b : Int} (hb : 0 < b) (hb2 : b < 1073741824) : ∃ (r : Nat) (M' : Mem), (r : Int) < b ∧ Dr i M M' ∧ F_draw [.ref i, .int b] M = some (.int (r : Nat), M') := by
  obtain ⟨r, M', h0, h1, h2, h3⟩ := draw_dr h hb hb2
  refine ⟨r.toNat, M', by omega, h2, ?_⟩
  rw [h3]
  congr 3
  omega
theorem pick_int {i : Nat} {M : Mem} {ks : List Int} (h : IsSt i M) (h0 : ks ≠ []) (hl : ks.length < 1000) : ∃ k M', k ∈ ks ∧ Dr i M M' ∧ F_pick [.ref i, .lst (ks.map .int)] M = some (.int k, M') := by
  obtain ⟨k, M', h1, h2, h3⟩ := pick_keys (ks := ks.map .num) h (by simpa using h0) (by simpa using hl)
  obtain ⟨n, hn, rfl⟩ := List.mem_map.mp h1
  refine ⟨n, M', hn, h2, ?_⟩
  rw [List.map_map] at h3
  exact h3
end Ev
/-! The data layer, part s: what the plain functions lead to, step by step, with an end of one's own. -/
namespace Vc
open PySem PySem.Spec PyProof.Rows L2 DL Ev
/-- m ends, and its end is as Q asks -/
def Wp {α : Type} (m : Option (α × Mem)) (Q : α → Mem → Prop) : Prop := ∃ a M', m = some (a, M') ∧ Q a M'
def WS (m : Option (Fl × Sl × Mem)) (Q : Fl → Sl → Mem → Prop) : Prop := ∃ f e M', m = some (f, e, M') ∧ Q f e M'
theorem Wp.mono {α : Type} {m : Option (α × Mem)} {P Q : α → Mem → Prop} (h : Wp m P) (k : ∀ a M', P a M' → Q a M') : Wp m Q := by
  obtain ⟨a, M', h1, h2⟩ := h
  exact ⟨a, M', h1, k _ _ h2⟩
theorem WS.mono {m : Option (Fl × Sl × Mem)} {P Q : Fl → Sl → Mem → Prop} (h : WS m P) (k : ∀ f e M', P f e M' → Q f e M') : WS m Q := by
  obtain ⟨f, e, M', h1, h2⟩ := h
  exact ⟨f, e, M', h1, k _ _ _ h2⟩
theorem Wp.of {α : Type} {m : Option (α × Mem)} {Q : α → Mem → Prop} {a : α} {M' : Mem} (h : m = some (a, M')) (q : Q a M') : Wp m Q := ⟨a, M', h, q⟩
theorem Wp.eq {α : Type} {m : Option (α × Mem)} {a : α} {M' : Mem} (h : Wp m fun x M1 => x = a ∧ M1 = M') : m = some (a, M') := by
  obtain ⟨x, M1, e, rfl, rfl⟩ := h
  exact e
/-- a bool alone -/
def IsB (d : Dt) (P : Bool → Prop) : Prop := ∃ c, d = .bl c ∧ P c
/-- what a test leads to -/
def Br (c : Bool) (A B : Prop) : Prop := (c = true → A) ∧ (c = false → B)
def Tru (M : Mem) (d : Dt) (P : Bool → Prop) : Prop := ∃ c, truthD M d = some c ∧ P c
def Get {α : Type} (o : Option α) (P : α → Prop) : Prop := ∃ a, o = some a ∧ P a
def ObjAt (M : Mem) (d : Dt) (C : Addr) (P : List Str → List Dt → Prop) : Prop := ∃ ns vs, objAt M d = some (C, ns, vs) ∧ P ns vs
def SK (f : Fl) (e : Sl) (M : Mem) (b : SM) (Q : Fl → Sl → Mem → Prop) : Prop := match f with
  | .nx => WS (b e M) Q
  | f => Q f e M
section
variable {e : Sl} {M M1 M2 M3 : Mem} {d d1 d2 x y z : Dt} {ds ds2 : List Dt} {a b c m : EM} {t t2 : TM} {am : AM} {i j n : Nat} {cc c1 c2 : Bool} {A B : Prop} {p q : Int}
theorem Get.mk {α : Type} {o : Option α} {P : α → Prop} {a : α} (h : o = some a) (q : P a) : Get o P := ⟨a, h, q⟩
/-! tests -/
theorem br_t (h : A) : Br true A B := ⟨fun _ => h, fun z => absurd z (by decide)⟩
theorem br_f (h : B) : Br false A B := ⟨fun z => absurd z (by decide), fun _ => h⟩
theorem br_d {P : Prop} [Decidable P] (h : P → A) (k : ¬P → B) : Br (decide P) A B := ⟨fun z => h (of_decide_eq_true z), fun z => k (of_decide_eq_false z)⟩
theorem br_dt {P : Prop} [Decidable P] (p : P) (h : A) : Br (decide P) A B := br_d (fun _ => h) fun z => absurd p z
theorem br_df {P : Prop} [Decidable P] (p : ¬P) (h : B) : Br (decide P) A B := br_d (fun z => absurd z p) fun _ => h
theorem br_n (h : Br c1 B A) : Br (!c1) A B := by
  cases c1 with
  | true => exact br_f (h.1 rfl)
  | false => exact br_t (h.2 rfl)
theorem br_c (h : c1 = true → A) (k : c1 = false → B) : Br c1 A B := ⟨h, k⟩
theorem br_eqt (e : c1 = true) (h : A) : Br c1 A B := by subst e; exact br_t h
theorem br_eqf (e : c1 = false) (h : B) : Br c1 A B := by subst e; exact br_f h
theorem br_nn (h : A) : Br (DL.isNon .non) A B := br_t h
theorem br_ni (h : B) : Br (DL.isNon (.int p)) A B := br_f h
theorem br_nt (h : B) : Br (DL.isNon (.tup ds)) A B := br_f h
theorem br_ns {z : Str} (h : B) : Br (DL.isNon (.str z)) A B := br_f h
theorem br_nl (h : B) : Br (DL.isNon (.lst ds)) A B := br_f h
theorem br_nr (h : B) : Br (DL.isNon (.ref i)) A B := br_f h
theorem isB {P : Bool → Prop} (h : P cc) : IsB (.bl cc) P := ⟨cc, rfl, h⟩
theorem tru_b {P : Bool → Prop} (h : P cc) : Tru M (.bl cc) P := ⟨cc, rfl, h⟩
theorem tru_i {P : Bool → Prop} (h : P (decide (p ≠ 0))) : Tru M (.int p) P := ⟨_, by simp only [truthD]; rw [show (p != 0) = decide (p ≠ 0) from by by_cases hp : p = 0 <;> simp [hp]], h⟩
theorem tru_l {P : Bool → Prop} (h : P (!ds.isEmpty)) : Tru M (.lst ds) P := ⟨_, rfl, h⟩
theorem tru_t {P : Bool → Prop} (h : P (!ds.isEmpty)) : Tru M (.tup ds) P := ⟨_, rfl, h⟩
theorem tru_n {P : Bool → Prop} (h : P false) : Tru M .non P := ⟨_, rfl, h⟩
theorem tru_r {P : Bool → Prop} (g : M[i]? = some (some (.lst ds))) (h : P (!ds.isEmpty)) : Tru M (.ref i) P := ⟨_, by simp only [truthD, g], h⟩
/-! expressions -/
section
variable {Q : Dt → Mem → Prop}
theorem ret {α : Type} {v : α} {Q : α → Mem → Prop} (h : Q v M) : Wp (some (v, M)) Q := ⟨v, M, rfl, h⟩
theorem thn {α β : Type} {o : Option (α × Mem)} {f : α → Mem → Option (β × Mem)} {Q : β → Mem → Prop} (h : Wp o fun a M1 => Wp (f a M1) Q) : Wp (thn1 o f) Q := by
  obtain ⟨a, M1, h1, h2⟩ := h
  rw [h1]
  exact h2
theorem thnS {α : Type} {o : Option (α × Mem)} {f : α → Mem → Option (Fl × Sl × Mem)} {Q : Fl → Sl → Mem → Prop} (h : Wp o fun a M1 => WS (f a M1) Q) : WS (thn1 o f) Q := by
  obtain ⟨a, M1, h1, h2⟩ := h
  rw [h1]
  exact h2
theorem pur' {α : Type} {o : Option α} {Q : α → Mem → Prop} (h : Get o fun v => Q v M) : Wp (pur o M) Q := by
  obtain ⟨v, h1, h2⟩ := h
  rw [h1]
  exact ⟨v, M, rfl, h2⟩
theorem var (h : e[i]? = some (some d)) (q : Q d M) : Wp (varE i e M) Q := .of (v_var h) q
theorem con (q : Q d M) : Wp (cE d e M) Q := .of rfl q
theorem op {g : Dt → Dt → Mem → Option (Dt × Mem)} (h : Wp (a e M) fun x M1 => Wp (b e M1) fun y M2 => Wp (g x y M2) Q) : Wp (opE g a b e M) Q := thn (h.mono fun _ _ h => thn h)
theorem un {g : Dt → Option Dt} (h : Wp (a e M) fun x M1 => Get (g x) fun d => Q d M1) : Wp (unE g a e M) Q := thn (h.mono fun _ _ h => pur' h)
theorem p2 {g : Dt → Dt → Option Dt} (h : Get (g x y) fun d => Q d M) : Wp (pure2 g x y M) Q := pur' h
theorem bl {Q : Bool → Mem → Prop} (h : Wp (m e M) fun d M1 => IsB d fun c => Q c M1) : Wp (blT m e M) Q := thn (h.mono fun d M1 h => by
  obtain ⟨c, rfl, h⟩ := h
  exact ret h)
theorem tru {Q : Bool → Mem → Prop} (h : Wp (m e M) fun d M1 => Tru M1 d fun c => Q c M1) : Wp (truT m e M) Q := thn (h.mono fun d M1 h => pur' h)
theorem wif {α : Type} {o r : Option (α × Mem)} {Q : α → Mem → Prop} (h : Br cc (Wp o Q) (Wp r Q)) : Wp (if cc = true then o else r) Q := by
  cases cc with
  | true => rw [if_pos rfl]; exact h.1 rfl
  | false => rw [if_neg (by decide)]; exact h.2 rfl
theorem wifS {o r : Option (Fl × Sl × Mem)} {Q : Fl → Sl → Mem → Prop} (h : Br cc (WS o Q) (WS r Q)) : WS (if cc = true then o else r) Q := by
  cases cc with
  | true => rw [if_pos rfl]; exact h.1 rfl
  | false => rw [if_neg (by decide)]; exact h.2 rfl
theorem Br.mono {A' B' : Prop} (h : Br cc A B) (k : A → A') (l : B → B') : Br cc A' B' := ⟨fun z => k (h.1 z), fun z => l (h.2 z)⟩
theorem and {Q : Bool → Mem → Prop} (h : Wp (t e M) fun c M1 => Br c (Wp (t2 e M1) Q) (Q false M1)) : Wp (andT t t2 e M) Q := thn (h.mono fun c M1 h => wif (h.mono id ret))
theorem or {Q : Bool → Mem → Prop} (h : Wp (t e M) fun c M1 => Br c (Q true M1) (Wp (t2 e M1) Q)) : Wp (orT t t2 e M) Q := thn (h.mono fun c M1 h => wif (h.mono ret id))
theorem not {Q : Bool → Mem → Prop} (h : Wp (t e M) fun c M1 => Q (!c) M1) : Wp (notT t e M) Q := thn (h.mono fun c M1 h => ret h)
theorem andE' (h : Wp (a e M) fun d M1 => IsB d fun c => Br c (Wp (b e M1) Q) (Q (.bl false) M1)) : Wp (andE a b e M) Q := thn (h.mono fun d M1 h => by
  obtain ⟨c, rfl, h⟩ := h
  cases c with
  | true => exact h.1 rfl
  | false => exact ret (h.2 rfl))
theorem orE' (h : Wp (a e M) fun d M1 => IsB d fun c => Br c (Q (.bl true) M1) (Wp (b e M1) Q)) : Wp (orE a b e M) Q := thn (h.mono fun d M1 h => by
  obtain ⟨c, rfl, h⟩ := h
  cases c with
  | true => exact ret (h.1 rfl)
  | false => exact h.2 rfl)
theorem ifE' (h : Wp (t e M) fun c M1 => Br c (Wp (a e M1) Q) (Wp (b e M1) Q)) : Wp (ifE t a b e M) Q := thn (h.mono fun c M1 h => wif h)
theorem nilA' {Q : List Dt → Mem → Prop} (h : Q [] M) : Wp (nilA e M) Q := ret h
theorem consA' {Q : List Dt → Mem → Prop} (h : Wp (a e M) fun x M1 => Wp (am e M1) fun xs M2 => Q (x :: xs) M2) : Wp (consA a am e M) Q := thn (h.mono fun _ _ h => thn (h.mono fun _ _ h => ret h))
theorem tup (h : Wp (am e M) fun ds M1 => ds.length ≤ 1000 ∧ Q (.tup ds) M1) : Wp (tupE am e M) Q := thn (h.mono fun ds M1 h => by
  have : ds.length ≤ sizeLine := by have := h.1; rw [sizeLine_eq]; omega
  rw [if_pos this]
  exact ret h.2)
theorem lst (h : Wp (am e M) fun ds M1 => ds.length ≤ 1000 ∧ Q (.lst ds) M1) : Wp (lstE am e M) Q := thn (h.mono fun ds M1 h => by
  have : ds.length ≤ sizeLine := by have := h.1; rw [sizeLine_eq]; omega
  rw [if_pos this]
  exact ret h.2)
theorem lstC' (h : Wp (am e M) fun ds M1 => ds.length ≤ 1000 ∧ Q (.ref M1.length) (M1 ++ [some (.lst ds)])) : Wp (lstC am e M) Q := thn (h.mono fun ds M1 h => by
  have : ds.length ≤ sizeLine := by have := h.1; rw [sizeLine_eq]; omega
  rw [if_pos this]
  exact ret h.2)
theorem len3 {x : Dt} {xs : List Dt} {n : Nat} (h : xs.length ≤ n) : (x :: xs).length ≤ n + 1 := Nat.succ_le_succ h
theorem call {F : FM} (h : Wp (am e M) fun ds M1 => Wp (F ds M1) Q) : Wp (callE F am e M) Q := thn h
theorem pF {g : List Dt → Option Dt} (h : Get (g ds) fun d => Q d M) : Wp (pureF g ds M) Q := pur' h
theorem frz (h : Wp (m e M) fun d M1 => Wp (frzD M1 d) Q) : Wp (frzE m e M) Q := thn h
theorem frzR (h : M[i]? = some (some d)) (q : Q d (M.set i none)) : Wp (frzD M (.ref i)) Q := .of (by simp only [frzD, h]) q
theorem newD (q : Q (.ref M.length) (M ++ [some (.dic [] [])])) : Wp (newDict e M) Q := ret q
theorem fld {C : Addr} {f : Str} (h : Wp (m e M) fun d M1 => ObjAt M1 d C fun ns vs => Get (getN f ns vs) fun d => Q d M1) : Wp (fldE C f m e M) Q := thn (h.mono fun d M1 h => by
  obtain ⟨ns, vs, h1, h3⟩ := h
  rw [h1]
  dsimp only
  rw [if_pos rfl]
  exact pur' h3)
theorem objR {P : List Str → List Dt → Prop} {C : Addr} {ns : List Str} {vs : List Dt} (h : M[i]? = some (some (.obj C ns vs))) (q : P ns vs) : ObjAt M (.ref i) C P := ⟨ns, vs, by simp only [objAt, h], q⟩
theorem gF {P : Dt → Prop} {f : Str} {ns : List Str} {vs : List Dt} (k : Nat) (h : (ns.findIdx? fun g => decide (f = g)) = some k) (hv : vs[k]? = some d) (q : P d) : Get (getN f ns vs) P := by
  refine ⟨d, ?_, q⟩
  clear q
  induction ns generalizing vs k with
  | nil => simp at h
  | cons g ns ih =>
    cases vs with
    | nil => simp at hv
    | cons v vs =>
      rw [List.findIdx?_cons] at h
      rw [getN]
      by_cases hf : f = g
      · rw [if_pos hf]
        rw [decide_eq_true hf] at h
        simp only [if_true, Option.some.injEq] at h
        subst h
        simpa using hv
      · rw [if_neg hf]
        rw [decide_eq_false hf] at h
        simp only [Bool.false_eq_true, if_false] at h
        cases hh : ns.findIdx? fun g => decide (f = g) with
        | none => rw [hh] at h; cases h
        | some j =>
          rw [hh] at h
          simp only [Option.map_some, Option.some.injEq] at h
          subst h
          exact ih j hh (by simpa using hv)
theorem mt {ty : Mem → Dt → Bool} {g : Dt → List Dt → Mem → Option (Dt × Mem)} (h : Wp (m e M) fun d M1 => ty M1 d = true ∧ Wp (am e M1) fun ds M2 => Wp (g d ds M2) Q) : Wp (mtE ty g m am e M) Q := thn (h.mono fun d M1 h => by
  rw [if_pos h.1]
  exact thn h.2)
theorem meth {C : Addr} {mn : Str} {F : FM} (h : Wp (m e M) fun d M1 => ObjAt M1 d C fun ns vs => (ns.all fun g => decide (g ≠ mn)) = true ∧ Wp (am e M1) fun ds M2 => Wp (F (d :: ds) M2) Q) : Wp (methE C mn F m am e M) Q := thn (h.mono fun d M1 h => by
  obtain ⟨ns, vs, h1, h2, h3⟩ := h
  rw [h1]
  dsimp only
  rw [if_pos ⟨rfl, h2⟩]
  exact thn h3)
theorem mk {C : Addr} {F : FM} (h : Wp (am e M) fun ds M1 => Wp (F (.ref M1.length :: ds) (M1 ++ [some (.obj C [] [])])) fun d M2 => d = .non ∧ Q (.ref M1.length) M2) : Wp (makeE C F am e M) Q := thn (h.mono fun ds M1 h => by
  obtain ⟨d, M2, h1, rfl, h2⟩ := h
  rw [h1]
  exact ret h2)
theorem chain {g g' : Dt → Dt → Mem → Option (Dt × Mem)} (h : Wp (a e M) fun x M1 => Wp (b e M1) fun y M2 => Wp (g x y M2) fun d M3 => IsB d fun cc => Br cc (Wp (c e M3) fun z M4 => Wp (g' y z M4) Q) (Q (.bl false) M3)) : Wp (chainE g g' a b c e M) Q :=
  thn (h.mono fun _ _ h => thn (h.mono fun _ _ h => thn (h.mono fun d _ h => by
    obtain ⟨cc, rfl, h⟩ := h
    cases cc with
    | true => exact thn (h.1 rfl)
    | false => exact ret (h.2 rfl))))
theorem sl {lo hi : OM} (h : Wp (a e M) fun d M1 => Wp (lo e M1) fun l M2 => Wp (hi e M2) fun u M3 => Get (slD M3 d l u) fun d => Q d M3) : Wp (slE a lo hi e M) Q := thn (h.mono fun _ _ h => thn (h.mono fun _ _ h => thn (h.mono fun _ _ h => pur' h)))
theorem noO' {Q : Option Int → Mem → Prop} (h : Q none M) : Wp (noO e M) Q := ret h
theorem someO' {Q : Option Int → Mem → Prop} (h : Wp (m e M) fun d M1 => ∃ p, d = .int p ∧ Q (some p) M1) : Wp (someO m e M) Q := thn (h.mono fun d M1 h => by
  obtain ⟨p, rfl, h⟩ := h
  exact ret h)
theorem isInt {P : Int → Prop} (h : P p) : ∃ q, Dt.int p = .int q ∧ P q := ⟨p, rfl, h⟩
theorem lc {it : IM} {tg : Tgt} {cc : TM} {el : EM} {vs : List Nat} (h : Wp (it e M) fun src M1 => Wp (lcL src.gd tg cc el (wipeS e vs) src.its [] M1) fun ds M2 => Q (.lst ds) M2) : Wp (lcE it tg cc el vs e M) Q := thn (h.mono fun _ _ h => thn (h.mono fun _ _ h => ret h))
theorem rg {cn : List Dt → Mem → Option (Dt × Mem)} (h : Wp (a e M) fun x M1 => Wp (b e M1) fun y M2 => Get (rgS x y) fun ds => Wp (cn ds M2) Q) : Wp (rgE cn a b e M) Q := thn (h.mono fun _ _ h => thn (h.mono fun _ _ h => by
  obtain ⟨ds, h1, h2⟩ := h
  rw [h1]
  exact h2))
theorem cL' (q : Q (.lst ds) M) : Wp (cL ds M) Q := ret q
end
theorem starA' {Q : List Dt → Mem → Prop} (h : Wp (m e M) fun d M1 => Get (seqAt M1 d) fun ds => Wp (am e M1) fun es M2 => Q (ds ++ es) M2) : Wp (starA m am e M) Q := thn (h.mono fun d M1 h => by
  obtain ⟨ds, h1, h2⟩ := h
  rw [h1]
  exact thn (h2.mono fun _ _ h => ret h))
theorem seqL {P : List Dt → Prop} (h : P ds) : Get (seqAt M (.lst ds)) P := ⟨_, rfl, h⟩
theorem seqT {P : List Dt → Prop} (h : P ds) : Get (seqAt M (.tup ds)) P := ⟨_, rfl, h⟩
theorem seqR {P : List Dt → Prop} (g : M[i]? = some (some (.lst ds))) (h : P ds) : Get (seqAt M (.ref i)) P := ⟨_, by simp only [seqAt, g], h⟩
/-! iterables -/
section
variable {Q : Src → Mem → Prop}
theorem seqI' (h : Wp (m e M) fun d M1 => Get (itemsOf M1 d) fun s => Q s M1) : Wp (seqI m e M) Q := thn (h.mono fun _ _ h => pur' h)
theorem rngI' (h : Wp (am e M) fun ds M1 => Get (rngD ds) fun s => Q s M1) : Wp (rngI am e M) Q := thn (h.mono fun _ _ h => pur' h)
theorem itT {P : Src → Prop} (h : P ⟨ds, fun _ => True⟩) : Get (itemsOf M (.tup ds)) P := ⟨_, rfl, h⟩
theorem itL {P : Src → Prop} (h : P ⟨ds, fun _ => True⟩) : Get (itemsOf M (.lst ds)) P := ⟨_, rfl, h⟩
theorem itK {P : Src → Prop} (h : P ⟨ds, fun _ => True⟩) : Get (itemsOf M (.lsk ds)) P := ⟨_, rfl, h⟩
theorem itR {P : Src → Prop} (g : M[i]? = some (some (.lst ds))) (h : P ⟨ds, fun M => M[i]? = some (some (.lst ds))⟩) : Get (itemsOf M (.ref i)) P := ⟨_, by simp only [itemsOf, g], h⟩
theorem rngN {P : Src → Prop} (hn : n < 1000000) (h : P ⟨nums n, fun _ => True⟩) : Get (rngD [.int (n : Nat)]) P := ⟨_, v_rngD hn, h⟩
theorem rngP {P : Src → Prop} (h0 : 0 ≤ p ∧ p < 1000000) (h : P ⟨nums p.toNat, fun _ => True⟩) : Get (rngD [.int p]) P := by
  obtain ⟨k, rfl⟩ := Int.eq_ofNat_of_zero_le h0.1
  exact rngN (by omega) (by simpa using h)
theorem rngLit {P : Src → Prop} (k : Nat) (hk : ((k : Nat) : Int) = p) (hn : k < 1000000) (h : P ⟨nums k, fun _ => True⟩) : Get (rngD [.int p]) P := by subst hk; exact rngN hn h
end
/-! statements -/
section
variable {Q : Fl → Sl → Mem → Prop} {s s2 : SM}
theorem seq (h : WS (s e M) fun f e1 M1 => SK f e1 M1 s2 Q) : WS (seqS s s2 e M) Q := by
  obtain ⟨f, e1, M1, h1, h2⟩ := h
  unfold seqS
  rw [h1]
  cases f with
  | nx => exact h2
  | bk => exact ⟨_, _, _, rfl, h2⟩
  | ct => exact ⟨_, _, _, rfl, h2⟩
  | rt d => exact ⟨_, _, _, rfl, h2⟩
/-- a cut between two statements -/
theorem seqC {R : Sl → Mem → Prop} (h : WS (s e M) fun f e1 M1 => f = .nx ∧ R e1 M1) (k : ∀ e1 M1, R e1 M1 → WS (s2 e1 M1) Q) : WS (seqS s s2 e M) Q := seq (h.mono fun f e1 M1 h => by
  obtain ⟨rfl, h⟩ := h
  exact k e1 M1 h)
theorem sk_nx (h : WS (s e M) Q) : SK .nx e M s Q := h
theorem sk_rt (h : Q (.rt d) e M) : SK (.rt d) e M s Q := h
theorem sk_bk (h : Q .bk e M) : SK .bk e M s Q := h
theorem sk_ct (h : Q .ct e M) : SK .ct e M s Q := h
theorem nx (h : Q .nx e M) : WS (nxS e M) Q := ⟨_, _, _, rfl, h⟩
theorem bk (h : Q .bk e M) : WS (bkS e M) Q := ⟨_, _, _, rfl, h⟩
theorem ct (h : Q .ct e M) : WS (ctS e M) Q := ⟨_, _, _, rfl, h⟩
theorem set' (h : Wp (m e M) fun d M1 => Q .nx (e.set i (some d)) M1) : WS (setS i m e M) Q := thnS (h.mono fun _ _ h => ⟨_, _, _, rfl, h⟩)
theorem ex (h : Wp (m e M) fun d M1 => Q .nx e M1) : WS (exS m e M) Q := thnS (h.mono fun _ _ h => ⟨_, _, _, rfl, h⟩)
theorem rt (h : Wp (m e M) fun d M1 => Q (.rt d) e M1) : WS (rtS m e M) Q := thnS (h.mono fun _ _ h => ⟨_, _, _, rfl, h⟩)
theorem if' (h : Wp (t e M) fun c M1 => Br c (WS (s e M1) Q) (WS (s2 e M1) Q)) : WS (ifS t s s2 e M) Q := thnS (h.mono fun _ _ h => wifS h)
theorem asg {g : GM} (h : Wp (m e M) fun d M1 => Wp (g d e M1) fun e1 M2 => Q .nx e1 M2) : WS (asgS m g e M) Q := thnS (h.mono fun d M1 h => by
  obtain ⟨e1, M2, h1, h2⟩ := h
  rw [h1]
  exact ⟨_, _, _, rfl, h2⟩)
theorem for' {it : IM} {g : GM} (h : Wp (it e M) fun src M1 => WS (loopS src.gd g s src.its e M1) Q) : WS (forS it g s e M) Q := thnS h
theorem fldS' {C : Addr} {f : Str} {mo mv : EM} (h : Wp (mv e M) fun v M1 => Wp (mo e M1) fun o M2 => Get (storeF M2 C f o v) fun M3 => Q .nx e M3) : WS (fldS C f mo mv e M) Q := thnS (h.mono fun v M1 h => thnS (h.mono fun o M2 h => by
  obtain ⟨M3, h1, h2⟩ := h
  rw [h1]
  exact ⟨_, _, _, rfl, h2⟩))
end
/-! assignments' left sides -/
section
variable {Q : Sl → Mem → Prop} {g : GM} {r : GsM}
theorem nameG' (h : Q (e.set i (some d)) M) : Wp (nameG i d e M) Q := ret h
theorem nilG' (h : Q e M) : Wp (nilG [] e M) Q := ret h
theorem consG' (h : Wp (g d e M) fun e1 M1 => Wp (r ds e1 M1) Q) : Wp (consG g r (d :: ds) e M) Q := by
  obtain ⟨e1, M1, h1, h2⟩ := h
  simp only [consG, h1]
  exact h2
theorem tupG' {gs : GsM} (hn : ds.length = n) (h : Wp (gs ds e M) Q) : Wp (tupG n gs (.tup ds) e M) Q := by simp only [tupG, if_pos hn]; exact h
theorem subG' {mo mi : EM} (h : Wp (mo e M) fun o M1 => Wp (mi e M1) fun k M2 => Get (storeD M2 o k d) fun M3 => Q e M3) : Wp (subG mo mi d e M) Q := thn (h.mono fun o M1 h => thn (h.mono fun k M2 h => by
  obtain ⟨M3, h1, h2⟩ := h
  rw [h1]
  exact ret h2))
end
/-! calls -/
/-- how a def's body ends -/
def BodyEnd (Q : Dt → Mem → Prop) : Fl → Sl → Mem → Prop
  | .rt d, _, M => Q d M
  | .nx, _, M => Q .non M
  | _, _, _ => False
theorem be_rt {Q : Dt → Mem → Prop} (h : Q d M) : BodyEnd Q (.rt d) e M := h
theorem be_nx {Q : Dt → Mem → Prop} (h : Q .non M) : BodyEnd Q .nx e M := h
theorem body' {Q : Dt → Mem → Prop} {s : SM} (h : WS (s (ds.map some ++ List.replicate (n - ds.length) none) M) (BodyEnd Q)) : Wp (body n s ds M) Q := by
  obtain ⟨f, e1, M1, h1, h2⟩ := h
  unfold body
  rw [h1]
  cases f with
  | nx => exact ret h2
  | rt d => exact ret h2
  | bk => exact False.elim h2
  | ct => exact False.elim h2
/-- a call: what it made within is given up; what stood before is changed only to what is closed -/
theorem cut {F : FM} {Q : Dt → Mem → Prop} (h : Wp (F ds M) fun d M' => DL.Cl M.length d ∧ (∀ (i : Nat) (c : Dt), i < M.length → M'[i]? = some (some c) → M[i]? = some (some c) ∨ DL.Cl M.length c) ∧ Q d (M'.take M.length)) : Wp (cutF F ds M) Q := by
  obtain ⟨d, M', h1, h2, h3, h4⟩ := h
  unfold cutF
  rw [h1]
  dsimp only
  rw [if_pos ⟨h2, h3⟩]
  exact ret h4
theorem cut0 {F : FM} {Q : Dt → Mem → Prop} (h : Wp (F ds M) fun d M' => DL.Cl M.length d ∧ (∃ t, M' = M ++ t) ∧ Q d M) : Wp (cutF F ds M) Q := cut (h.mono fun d M' h => by
  obtain ⟨h1, ⟨tl, rfl⟩, h2⟩ := h
  exact ⟨h1, fun i c hi hc => .inl (by rw [List.getElem?_append_left hi] at hc; exact hc), by rw [List.take_left']; exact h2; rfl⟩)
theorem cut1 {F : FM} {Q : Dt → Mem → Prop} (b : Nat) (h : Wp (F ds M) fun d M' => DL.Cl M.length d ∧ ∃ c t, DL.Cl M.length c ∧ M' = M.set b (some c) ++ t ∧ Q d (M.set b (some c))) : Wp (cutF F ds M) Q := cut (h.mono fun d M' h => by
  obtain ⟨h1, c, tl, h2, rfl, h3⟩ := h
  refine ⟨h1, fun i c' hi hc => ?_, by rw [List.take_left']; exact h3; exact List.length_set⟩
  rw [List.getElem?_append_left (by rw [List.length_set]; exact hi)] at hc
  by_cases hb : b = i
  · subst hb
    rw [List.getElem?_set_self hi] at hc
    cases hc
    exact .inr h2
  · rw [List.getElem?_set_ne hb] at hc
    exact .inl hc)
theorem cutR {F : FM} {Q : Dt → Mem → Prop} {s : Nat} (h : Wp (F ds M) fun d M' => DL.Cl M.length d ∧ Dr s M M' ∧ Q d M') : Wp (cutF F ds M) Q := by
  obtain ⟨d, M', h1, h2, h3, h4⟩ := h
  exact .of (cutF_dr h3 h1 h2) h4
/-- a def without changes -/
theorem pureFn {s : SM} {d : Dt} (hd : ∀ n, DL.Cl n d) (h : WS (s (ds.map some ++ List.replicate (n - ds.length) none) M) fun f _ M' => f = .rt d ∧ ∃ t, M' = M ++ t) : cutF (body n s) ds M = some (d, M) := by
  refine Wp.eq (cut0 (body' (h.mono fun f e M' h => ?_)))
  obtain ⟨rfl, h⟩ := h
  exact be_rt ⟨hd _, h, rfl, rfl⟩
/-! data -/
section
variable {P : Dt → Prop} {Q : Dt → Mem → Prop} {k l : Nat}
theorem addI (h : P (.int (p + q))) : Get (addD (.int p) (.int q)) P := ⟨_, rfl, h⟩
theorem aNN (h : P (.int ((k + l : Nat) : Int))) : Get (addD (.int (k : Nat)) (.int (l : Nat))) P := ⟨_, rfl, by rw [Int.natCast_add] at h; exact h⟩
theorem addN1 (h : P (.int ((k + 1 : Nat) : Int))) : Get (addD (.int (k : Nat)) (.int 1)) P := ⟨_, rfl, by rw [Int.natCast_add] at h; exact h⟩
theorem add1N (h : P (.int ((k + 1 : Nat) : Int))) : Get (addD (.int 1) (.int (k : Nat))) P := ⟨_, rfl, by rw [Nat.add_comm, Int.natCast_add] at h; exact h⟩
theorem addL (hz : ds.length + ds2.length ≤ 100000) (h : P (.lst (ds ++ ds2))) : Get (addD (.lst ds) (.lst ds2)) P := ⟨_, by simp only [addD]; rw [if_pos (by rw [sizeLine_eq]; omega)], h⟩
theorem addLm {α : Type} {f : α → Dt} {xs ys : List α} (hz : xs.length + ys.length ≤ 100000) (h : P (.lst ((xs ++ ys).map f))) : Get (addD (.lst (xs.map f)) (.lst (ys.map f))) P := addL (by rw [List.length_map, List.length_map]; exact hz) (by rw [← List.map_append]; exact h)
theorem addT (hz : ds.length + ds2.length ≤ 100000) (h : P (.tup (ds ++ ds2))) : Get (addD (.tup ds) (.tup ds2)) P := ⟨_, by simp only [addD]; rw [if_pos (by rw [sizeLine_eq]; omega)], h⟩
theorem subI (h : P (.int (p - q))) : Get (subD (.int p) (.int q)) P := ⟨_, rfl, h⟩
theorem subN1 (h : P (.int (k : Nat))) : Get (subD (.int ((k + 1 : Nat) : Int)) (.int 1)) P := ⟨_, rfl, by rw [show ((k + 1 : Nat) : Int) - 1 = (k : Int) from by omega]; exact h⟩
theorem negI (h : P (.int (-p))) : Get (negD (.int p)) P := ⟨_, rfl, h⟩
theorem notB (h : P (.bl (!cc))) : Get (notD (.bl cc)) P := ⟨_, rfl, h⟩
theorem gtI' (h : P (.bl (decide (q < p)))) : Get (gtI (.int p) (.int q)) P := ⟨_, rfl, h⟩
theorem leI' (h : P (.bl (decide (p ≤ q)))) : Get (leI (.int p) (.int q)) P := ⟨_, rfl, h⟩
theorem geI' (h : P (.bl (decide (q ≤ p)))) : Get (geI (.int p) (.int q)) P := ⟨_, rfl, h⟩
theorem isN' (h : P (.bl (DL.isNon x))) : Get (isND x .non) P := ⟨_, rfl, h⟩
theorem isnN' (h : P (.bl (!DL.isNon x))) : Get (isnND x .non) P := ⟨_, rfl, h⟩
theorem ltI (h : Q (.bl (decide (p < q))) M) : Wp (ltD (.int p) (.int q) M) Q := .of rfl h
theorem eqI (h : Q (.bl (decide (p = q))) M) : Wp (eqD (.int p) (.int q) M) Q := .of (v_eq v_eqI) h
theorem neI (h : Q (.bl (!decide (p = q))) M) : Wp (neD (.int p) (.int q) M) Q := .of (v_ne v_eqI) h
theorem eqW (g : eqO M x y = some cc) (h : Q (.bl cc) M) : Wp (eqD x y M) Q := .of (v_eq g) h
theorem neW (g : eqO M x y = some cc) (h : Q (.bl (!cc)) M) : Wp (neD x y M) Q := .of (v_ne g) h
theorem inW (g : inO M x y = some cc) (h : Q (.bl cc) M) : Wp (inD x y M) Q := .of (v_in g) h
theorem niW (g : inO M x y = some cc) (h : Q (.bl (!cc)) M) : Wp (notInD x y M) Q := .of (v_notIn g) h
theorem lenW (g : lenD M x = some k) (h : Q (.int (k : Nat)) M) : Wp (lenF [x] M) Q := .of (v_len g) h
theorem lenL (h : Q (.int (ds.length : Nat)) M) : Wp (lenF [.lst ds] M) Q := lenW rfl h
theorem lenT (h : Q (.int (ds.length : Nat)) M) : Wp (lenF [.tup ds] M) Q := lenW rfl h
theorem lenK (h : Q (.int (ds.length : Nat)) M) : Wp (lenF [.lsk ds] M) Q := lenW rfl h
theorem lenLm {α : Type} {f : α → Dt} {xs : List α} (h : Q (.int (xs.length : Nat)) M) : Wp (lenF [.lst (xs.map f)] M) Q := lenL (by rw [List.length_map]; exact h)
theorem lenTm {α : Type} {f : α → Dt} {xs : List α} (h : Q (.int (xs.length : Nat)) M) : Wp (lenF [.tup (xs.map f)] M) Q := lenT (by rw [List.length_map]; exact h)
theorem lenR (g : M[i]? = some (some (.lst ds))) (h : Q (.int (ds.length : Nat)) M) : Wp (lenF [.ref i] M) Q := lenW (by simp only [lenD, seqAt, g]; rfl) h
theorem ixW {r : Dt × Mem} (g : ixA x y M = some r) (h : Q r.1 r.2) : Wp (ixA x y M) Q := .of g h
theorem ixL (g : ds[k]? = some d) (h : Q d M) : Wp (ixA (.lst ds) (.int (k : Nat)) M) Q := .of (v_ixL g) h
theorem ixT (g : ds[k]? = some d) (h : Q d M) : Wp (ixA (.tup ds) (.int (k : Nat)) M) Q := .of (v_ixT g) h
theorem ixR (g0 : M[i]? = some (some (.lst ds))) (g : ds[k]? = some d) (h : Q d M) : Wp (ixA (.ref i) (.int (k : Nat)) M) Q := .of (v_ix (by simp only [dictAt, g0]) (by simp only [seqAt, g0]) g fun _ z => by cases z) h
theorem mapG {α : Type} {f : α → Dt} {xs : List α} {v : α} (g : xs[k]? = some v) : (xs.map f)[k]? = some (f v) := by rw [List.getElem?_map, g]; rfl
theorem ixT0 (h : Q d M) : Wp (ixA (.tup (d :: ds)) (.int 0) M) Q := .of (v_ixT (n := 0) rfl) h
theorem ixT1 (h : Q d M) : Wp (ixA (.tup (x :: d :: ds)) (.int 1) M) Q := .of (v_ixT (n := 1) rfl) h
theorem ixT2 (h : Q d M) : Wp (ixA (.tup (x :: y :: d :: ds)) (.int 2) M) Q := .of (v_ixT (n := 2) rfl) h
theorem ixT3 (h : Q d M) : Wp (ixA (.tup (x :: y :: z :: d :: ds)) (.int 3) M) Q := .of (v_ixT (n := 3) rfl) h
theorem ixL0 (h : Q d M) : Wp (ixA (.lst (d :: ds)) (.int 0) M) Q := .of (v_ixL (n := 0) rfl) h
theorem ixL1 (h : Q d M) : Wp (ixA (.lst (x :: d :: ds)) (.int 1) M) Q := .of (v_ixL (n := 1) rfl) h
theorem ixL2 (h : Q d M) : Wp (ixA (.lst (x :: y :: d :: ds)) (.int 2) M) Q := .of (v_ixL (n := 2) rfl) h
theorem sl1T (h : P (.tup ds)) : Get (slD M (.tup (x :: ds)) (some 1) none) P := ⟨_, by
  show some (Dt.tup (cutL (x :: ds) (some 1) none)) = _
  simp [cutL, HT.sIx], h⟩
theorem isiW {T : String} (g : ((tyD M d).bind fun t => kitB t T) = some cc) (h : Q (.bl cc) M) : Wp (isiF [d, .ty T] M) Q := .of (v_isi g) h
theorem isiTr {T : String} (g : ((tyD M d).bind fun t => kitB t T) = some true) (h : Q (.bl true) M) : Wp (isiF [d, .ty T] M) Q := isiW g h
theorem isiFa {T : String} (g : ((tyD M d).bind fun t => kitB t T) = some false) (h : Q (.bl false) M) : Wp (isiF [d, .ty T] M) Q := isiW g h
theorem intI {P : Dt → Prop} (h : P (.int p)) : Get (intF [.int p]) P := ⟨_, rfl, h⟩
theorem intB {P : Dt → Prop} (h : P (.int (if cc then 1 else 0))) : Get (intF [.bl cc]) P := ⟨_, rfl, h⟩
theorem maxI {P : Dt → Prop} (h : P (.int (if q > p then q else p))) : Get (maxF [.int p, .int q]) P := ⟨_, rfl, h⟩
theorem minI {P : Dt → Prop} (h : P (.int (if q < p then q else p))) : Get (minF [.int p, .int q]) P := ⟨_, rfl, h⟩
theorem allW {bs : List Bool} (h : Q (.bl (bs.all id)) M) : Wp (allF [.lst (bs.map .bl)] M) Q := .of all_bl h
theorem tupleL (h : Q (.tup ds) M) : Wp (tupleF [.lst ds] M) Q := ret h
theorem tupleT (h : Q (.tup ds) M) : Wp (tupleF [.tup ds] M) Q := ret h
theorem listAL (h : Q (.lst ds) M) : Wp (listA [.lst ds] M) Q := ret h
theorem listAT (h : Q (.lst ds) M) : Wp (listA [.tup ds] M) Q := ret h
theorem listBL (h : Q (.ref M.length) (M ++ [some (.lst ds)])) : Wp (listB [.lst ds] M) Q := ret h
theorem listBT (h : Q (.ref M.length) (M ++ [some (.lst ds)])) : Wp (listB [.tup ds] M) Q := ret h
theorem isL_r (g : M[i]? = some (some (.lst ds))) : isL M (.ref i) = true := by simp only [isL, lstAt, g]; rfl
theorem isD_r {ks vs : List Dt} (g : M[i]? = some (some (.dic ks vs))) : isD M (.ref i) = true := by simp only [isD, dictAt, g]; rfl
theorem isD_d {ks vs : List Dt} : isD M (.dic ks vs) = true := rfl
theorem app (g : M[i]? = some (some (.lst ds))) (hz : ds.length < 100000) (h : Q .non (M.set i (some (.lst (ds ++ [d]))))) : Wp (appG (.ref i) [d] M) Q := .of (by simp only [appG, g]; rw [if_pos (by rw [sizeLine_eq]; omega)]) h
theorem extL (g : M[i]? = some (some (.lst ds))) (hz : ds.length + ds2.length ≤ 100000) (h : Q .non (M.set i (some (.lst (ds ++ ds2))))) : Wp (extG (.ref i) [.lst ds2] M) Q := .of (by simp only [extG, g]; rw [if_pos (by rw [sizeLine_eq]; omega)]) h
theorem pop (g : M[i]? = some (some (.lst (ds ++ [d])))) (h : Q d (M.set i (some (.lst ds)))) : Wp (popG (.ref i) [] M) Q := .of (by
  have e : (ds ++ [d])[(ds ++ [d]).length - 1]? = some d := by simp
  simp only [popG, g, e, List.dropLast_concat]) h
theorem stL {PM : Mem → Prop} (g : M[i]? = some (some (.lst ds))) (hk : k < ds.length) (h : PM (M.set i (some (.lst (ds.set k d))))) : Get (storeD M (.ref i) (.int (k : Nat)) d) PM := ⟨_, by
  have : L2.ixN ds.length (k : Int) = some k := by
    unfold L2.ixN
    split
    · simp only [Int.toNat_natCast]
      rw [if_pos (by omega)]
    · omega
  simp only [storeD, g]
  rw [this]
  rfl, h⟩
theorem addN_new {f : Str} {ns : List Str} (h : (ns.all fun g => decide (g ≠ f)) = true) : DL.addN f ns = ns ++ [f] := by
  unfold DL.addN
  rw [if_neg]
  intro hm
  have := List.all_eq_true.mp h f hm
  simp at this
theorem putN_new {f : Str} : ∀ {ns : List Str} {vs : List Dt}, (ns.all fun g => decide (g ≠ f)) = true → ns.length = vs.length → putN f d ns vs = vs ++ [d]
  | [], [], _, _ => rfl
  | [], _ :: _, _, h => by simp at h
  | _ :: _, [], _, h => by simp at h
  | g :: ns, v :: vs, h, hl => by
    rw [List.all_cons, Bool.and_eq_true, decide_eq_true_iff] at h
    rw [putN, if_neg h.1, putN_new h.2 (by simpa using hl)]
    rfl
theorem sFn {PM : Mem → Prop} {C : Addr} {f : Str} {ns : List Str} {vs : List Dt} (g : M[i]? = some (some (.obj C ns vs))) (hf : (ns.all fun g => decide (g ≠ f)) = true) (hn : ns.length ≤ 50) (hl : ns.length = vs.length) (h : PM (M.set i (some (.obj C (ns ++ [f]) (vs ++ [d]))))) : Get (storeF M C f (.ref i) d) PM := ⟨_, by
  simp only [storeF, g]
  rw [if_pos ⟨True.intro, by omega⟩, addN_new hf, putN_new hf hl], h⟩
theorem addN_old {f : Str} {ns : List Str} {k : Nat} (h : (ns.findIdx? fun g => decide (f = g)) = some k) : DL.addN f ns = ns := by
  unfold DL.addN
  rw [if_pos]
  have := List.findIdx?_eq_some_iff_getElem.mp h
  obtain ⟨hk, h1, _⟩ := this
  rw [of_decide_eq_true h1]
  exact List.getElem_mem hk
theorem putN_old {f : Str} : ∀ {ns : List Str} {vs : List Dt} {k : Nat}, (ns.findIdx? fun g => decide (f = g)) = some k → ns.length = vs.length → putN f d ns vs = vs.set k d
  | [], vs, k, h, _ => by simp at h
  | g :: ns, [], k, h, hl => by simp at hl
  | g :: ns, v :: vs, k, h, hl => by
    rw [List.findIdx?_cons] at h
    rw [putN]
    by_cases hf : f = g
    · rw [if_pos hf.symm]
      rw [decide_eq_true hf] at h
      simp only [if_true, Option.some.injEq] at h
      subst h
      rfl
    · rw [if_neg fun z => hf z.symm]
      rw [decide_eq_false hf] at h
      simp only [Bool.false_eq_true, if_false] at h
      cases hh : ns.findIdx? fun g => decide (f = g) with
      | none => rw [hh] at h; cases h
      | some j =>
        rw [hh] at h
        simp only [Option.map_some, Option.some.injEq] at h
        subst h
        rw [putN_old hh (by simpa using hl)]
        rfl
theorem sFo {PM : Mem → Prop} {C : Addr} {f : Str} {ns : List Str} {vs : List Dt} (k : Nat) (g : M[i]? = some (some (.obj C ns vs))) (hf : (ns.findIdx? fun g => decide (f = g)) = some k) (hn : ns.length ≤ 50) (hl : ns.length = vs.length) (h : PM (M.set i (some (.obj C ns (vs.set k d))))) : Get (storeF M C f (.ref i) d) PM := ⟨_, by
  simp only [storeF, g]
  rw [if_pos ⟨True.intro, by omega⟩, addN_old hf, putN_old hf hl], h⟩
end
/-! iterables that count, and that go back -/
section
variable {Q : Src → Mem → Prop} {P : Src → Prop}
theorem enumI' (h : Wp (am e M) fun ds M1 => ∃ d, ds = [d] ∧ Get (lsrc M1 d) fun s => Q ⟨enumD 0 s.its, s.gd⟩ M1) : Wp (enumI am e M) Q := thn (h.mono fun ds M1 h => by
  obtain ⟨d, rfl, s, h1, h2⟩ := h
  exact pur' ⟨_, by show (lsrc M1 d).map _ = _; rw [h1]; rfl, h2⟩)
theorem revI' (h : Wp (am e M) fun ds M1 => ∃ d, ds = [d] ∧ Get (revJ d) fun s => Q s M1) : Wp (revI am e M) Q := thn (h.mono fun ds M1 h => by
  obtain ⟨d, rfl, s, h1, h2⟩ := h
  exact pur' ⟨_, h1, h2⟩)
theorem one {P : Dt → Prop} (h : P x) : ∃ d, [x] = [d] ∧ P d := ⟨x, rfl, h⟩
theorem lsL (h : P ⟨ds, fun _ => True⟩) : Get (lsrc M (.lst ds)) P := ⟨_, rfl, h⟩
theorem lsR (g : M[i]? = some (some (.lst ds))) (h : P ⟨ds, fun M => M[i]? = some (some (.lst ds))⟩) : Get (lsrc M (.ref i)) P := ⟨_, by simp only [lsrc, g], h⟩
theorem revN (hn : n < 1000000) (h : P ⟨(List.range n).map fun i => .int ((n - 1 - i : Nat) : Int), fun _ => True⟩) : Get (revJ (.int (n : Nat))) P := by
  refine ⟨_, ?_, h⟩
  have h1 : -(2 ^ 61) ≤ ((n : Nat) : Int) ∧ ((n : Nat) : Int) < 2 ^ 61 := by omega
  simp only [revJ]
  rw [if_pos h1]
  congr 2
  rw [Int.toNat_natCast]
  refine List.map_congr_left fun i hi => ?_
  have := List.mem_range.mp hi
  congr 1
  omega
end
end
end Vc
/-! The data layer, part t: loops and comprehensions with an end of one's own; dicts by key; cells behind a memory. -/
namespace Vc
open PySem PySem.Spec PyProof.Rows L2 DL Ev
/-- how a round of a loop ends -/
def LoopEnd (Q : Fl → Sl → Mem → Prop) (P : Sl → Mem → Prop) : Fl → Sl → Mem → Prop
  | .nx, e, M => P e M
  | .ct, e, M => P e M
  | .bk, e, M => Q .nx e M
  | .rt d, e, M => Q (.rt d) e M
section
variable {Q : Fl → Sl → Mem → Prop} {P : Sl → Mem → Prop} {e : Sl} {M : Mem} {d : Dt}
theorem le_nx (h : P e M) : LoopEnd Q P .nx e M := h
theorem le_ct (h : P e M) : LoopEnd Q P .ct e M := h
theorem le_bk (h : Q .nx e M) : LoopEnd Q P .bk e M := h
theorem le_rt (h : Q (.rt d) e M) : LoopEnd Q P (.rt d) e M := h
end
theorem loop {gd : Mem → Prop} {g : GM} {b : SM} {α : Type} {f : α → Dt} {Q : Fl → Sl → Mem → Prop} {xs : List α} {e : Sl} {M : Mem} (P : List α → Sl → Mem → Prop) (h0 : P [] e M)
    (hs : ∀ pre x post e M, xs = pre ++ x :: post → P pre e M → gd M ∧ Wp (g (f x) e M) fun e1 M1 => WS (b e1 M1) (LoopEnd Q (P (pre ++ [x]))))
    (he : ∀ e M, P xs e M → gd M ∧ Q .nx e M) : WS (loopS gd g b (xs.map f) e M) Q := by
  have main : ∀ (post pre : List α) (e : Sl) (M : Mem), xs = pre ++ post → P pre e M → WS (loopS gd g b (post.map f) e M) Q := by
    intro post
    induction post with
    | nil =>
      intro pre e M hx hp
      rw [List.append_nil] at hx
      subst hx
      obtain ⟨h1, h2⟩ := he e M hp
      exact ⟨.nx, e, M, by rw [List.map_nil]; unfold loopS; rw [if_pos h1], h2⟩
    | cons x post ih =>
      intro pre e M hx hp
      obtain ⟨h1, e1, M1, h2, fl, e2, M2, h3, h4⟩ := hs pre x post e M hx hp
      have hx2 : xs = (pre ++ [x]) ++ post := by rw [hx]; simp
      rw [List.map_cons]
      unfold loopS
      rw [if_pos h1, h2]
      simp only [h3]
      cases fl with
      | nx => exact ih _ e2 M2 hx2 h4
      | ct => exact ih _ e2 M2 hx2 h4
      | bk => exact ⟨.nx, e2, M2, rfl, h4⟩
      | rt d => exact ⟨.rt d, e2, M2, rfl, h4⟩
  exact main xs [] e M rfl h0
theorem loopE {gd : Mem → Prop} {g : GM} {b : SM} {α : Type} {f : α → Dt} {Q : Fl → Sl → Mem → Prop} {xs : List α} {e : Sl} {M : Mem} (P : List α → Sl → Mem → Prop) (h0 : P [] e M)
    (hs : ∀ pre x post e M, xs = pre ++ x :: post → P pre e M → gd M ∧ Wp (g (.tup [.int (pre.length : Nat), f x]) e M) fun e1 M1 => WS (b e1 M1) (LoopEnd Q (P (pre ++ [x]))))
    (he : ∀ e M, P xs e M → gd M ∧ Q .nx e M) : WS (loopS gd g b (enumD 0 (xs.map f)) e M) Q := by
  have main : ∀ (post pre : List α) (e : Sl) (M : Mem), xs = pre ++ post → P pre e M → WS (loopS gd g b (enumD pre.length (post.map f)) e M) Q := by
    intro post
    induction post with
    | nil =>
      intro pre e M hx hp
      rw [List.append_nil] at hx
      subst hx
      obtain ⟨h1, h2⟩ := he e M hp
      exact ⟨.nx, e, M, by rw [List.map_nil, enumD]; unfold loopS; rw [if_pos h1], h2⟩
    | cons x post ih =>
      intro pre e M hx hp
      obtain ⟨h1, e1, M1, h2, fl, e2, M2, h3, h4⟩ := hs pre x post e M hx hp
      have hx2 : xs = (pre ++ [x]) ++ post := by rw [hx]; simp
      rw [List.map_cons, enumD]
      unfold loopS
      rw [if_pos h1, h2]
      simp only [h3]
      have hl : (pre ++ [x]).length = pre.length + 1 := by simp
      cases fl with
      | nx => have := ih _ e2 M2 hx2 h4; rw [hl] at this; exact this
      | ct => have := ih _ e2 M2 hx2 h4; rw [hl] at this; exact this
      | bk => exact ⟨.nx, e2, M2, rfl, h4⟩
      | rt d => exact ⟨.rt d, e2, M2, rfl, h4⟩
  exact main xs [] e M rfl h0
theorem while' {c : TM} {b : SM} {Q : Fl → Sl → Mem → Prop} (P : Nat → Sl → Mem → Prop)
    (hs : ∀ k e M, P k e M → Wp (c e M) fun t M1 => Br t (WS (b e M1) (LoopEnd Q fun e2 M2 => ∃ j, j < k ∧ P j e2 M2)) (Q .nx e M1)) : ∀ (k : Nat) (e : Sl) (M : Mem), P k e M → WS (whS c b e M) Q := by
  have main : ∀ (n k : Nat), k ≤ n → ∀ (e : Sl) (M : Mem), P k e M → ∃ m f e' M', whN c b m e M = some (f, e', M') ∧ Q f e' M' := by
    intro n
    induction n with
    | zero =>
      intro k hk e M hp
      obtain ⟨t, M1, h1, h2, h3⟩ := hs k e M hp
      cases t with
      | false => exact ⟨1, .nx, e, M1, by unfold whN; rw [h1]; simp only [thn1_some]; rw [if_neg (by decide)], h3 rfl⟩
      | true =>
        obtain ⟨fl, e2, M2, h4, h5⟩ := h2 rfl
        have base : ∀ r, (match some (fl, e2, M2) with
          | none => none
          | some (Fl.nx, e2, M2) => whN c b 0 e2 M2
          | some (.ct, e2, M2) => whN c b 0 e2 M2
          | some (.bk, e2, M2) => some (.nx, e2, M2)
          | some (.rt r, e2, M2) => some (.rt r, e2, M2)) = r → whN c b 1 e M = r := by
          intro r hr
          unfold whN
          rw [h1]
          simp only [thn1_some, if_true, h4]
          exact hr
        cases fl with
        | nx => obtain ⟨j, hj, _⟩ := h5; omega
        | ct => obtain ⟨j, hj, _⟩ := h5; omega
        | bk => exact ⟨1, .nx, e2, M2, base _ rfl, h5⟩
        | rt d => exact ⟨1, .rt d, e2, M2, base _ rfl, h5⟩
    | succ n ih =>
      intro k hk e M hp
      obtain ⟨t, M1, h1, h2, h3⟩ := hs k e M hp
      cases t with
      | false => exact ⟨1, .nx, e, M1, by unfold whN; rw [h1]; simp only [thn1_some]; rw [if_neg (by decide)], h3 rfl⟩
      | true =>
        obtain ⟨fl, e2, M2, h4, h5⟩ := h2 rfl
        have base : ∀ m r, (match some (fl, e2, M2) with
          | none => none
          | some (Fl.nx, e2, M2) => whN c b m e2 M2
          | some (.ct, e2, M2) => whN c b m e2 M2
          | some (.bk, e2, M2) => some (.nx, e2, M2)
          | some (.rt r, e2, M2) => some (.rt r, e2, M2)) = r → whN c b (m + 1) e M = r := by
          intro m r hr
          rw [whN]
          show thn1 (c e M) _ = r
          rw [h1]
          simp only [thn1_some, if_true, h4]
          exact hr
        cases fl with
        | nx =>
          obtain ⟨j, hj, hp2⟩ := h5
          obtain ⟨m, f, e', M', h6, h7⟩ := ih j (by omega) e2 M2 hp2
          exact ⟨m + 1, f, e', M', base m _ h6, h7⟩
        | ct =>
          obtain ⟨j, hj, hp2⟩ := h5
          obtain ⟨m, f, e', M', h6, h7⟩ := ih j (by omega) e2 M2 hp2
          exact ⟨m + 1, f, e', M', base m _ h6, h7⟩
        | bk => exact ⟨1, .nx, e2, M2, base 0 _ rfl, h5⟩
        | rt d => exact ⟨1, .rt d, e2, M2, base 0 _ rfl, h5⟩
  intro k e M hp
  obtain ⟨m, f, e', M', h1, h2⟩ := main k k (Nat.le_refl _) e M hp
  exact ⟨f, e', M', whS_of h1, h2⟩
/-! comprehensions -/
theorem lcInv {gd : Mem → Prop} {t : Tgt} {c : TM} {el : EM} {e0 : Sl} {α : Type} {f : α → Dt} {Q : List Dt → Mem → Prop} {xs : List α} {M : Mem} (P : List α → List Dt → Mem → Prop) (hz : xs.length ≤ 100000) (h0 : P [] [] M)
    (hs : ∀ pre x post acc M, xs = pre ++ x :: post → P pre acc M → gd M ∧ Get (t.m (f x) e0) fun e1 => Wp (c e1 M) fun b M2 => Br b (Wp (el e1 M2) fun d M3 => P (pre ++ [x]) (acc ++ [d]) M3) (P (pre ++ [x]) acc M2))
    (he : ∀ acc M, P xs acc M → gd M ∧ Q acc M) : Wp (lcL gd t c el e0 (xs.map f) [] M) Q := by
  have main : ∀ (post pre : List α) (acc : List Dt) (M : Mem), xs = pre ++ post → acc.length ≤ pre.length → P pre acc M → Wp (lcL gd t c el e0 (post.map f) acc M) Q := by
    intro post
    induction post with
    | nil =>
      intro pre acc M hx hl hp
      rw [List.append_nil] at hx
      subst hx
      obtain ⟨h1, h2⟩ := he acc M hp
      exact ⟨acc, M, by rw [List.map_nil]; unfold lcL; rw [if_pos h1], h2⟩
    | cons x post ih =>
      intro pre acc M hx hl hp
      obtain ⟨h1, e1, h2, b, M2, h3, h4, h5⟩ := hs pre x post acc M hx hp
      have hx2 : xs = (pre ++ [x]) ++ post := by rw [hx]; simp
      have hle : pre.length < xs.length := by rw [hx, List.length_append, List.length_cons]; omega
      rw [List.map_cons]
      unfold lcL
      rw [if_pos h1, h2]
      simp only [h3, thn1_some]
      cases b with
      | true =>
        obtain ⟨d, M3, h6, h7⟩ := h4 rfl
        simp only [if_true, h6, thn1_some]
        rw [if_pos (by rw [sizeLine_eq]; omega)]
        exact ih _ _ M3 hx2 (by rw [List.length_append, List.length_append, List.length_singleton, List.length_singleton]; omega) h7
      | false =>
        rw [if_neg (by decide)]
        exact ih _ _ M2 hx2 (by rw [List.length_append, List.length_singleton]; omega) (h5 rfl)
  exact main xs [] [] M rfl (Nat.le_refl _) h0
theorem lcNil {gd : Mem → Prop} {t : Tgt} {c : TM} {el : EM} {e0 : Sl} {Q : List Dt → Mem → Prop} {acc : List Dt} {M : Mem} (hg : gd M) (h : Q acc M) : Wp (lcL gd t c el e0 [] acc M) Q := ⟨acc, M, by unfold lcL; rw [if_pos hg], h⟩
theorem lcCons {gd : Mem → Prop} {t : Tgt} {c : TM} {el : EM} {e0 : Sl} {Q : List Dt → Mem → Prop} {acc ds : List Dt} {d : Dt} {M : Mem} (hg : gd M)
    (h : Get (t.m d e0) fun e1 => Wp (c e1 M) fun b M2 => Br b (Wp (el e1 M2) fun y M3 => acc.length ≤ 1000 ∧ Wp (lcL gd t c el e0 ds (acc ++ [y]) M3) Q) (Wp (lcL gd t c el e0 ds acc M2) Q)) : Wp (lcL gd t c el e0 (d :: ds) acc M) Q := by
  obtain ⟨e1, h2, b, M2, h3, h4, h5⟩ := h
  unfold lcL
  rw [if_pos hg, h2]
  simp only [h3, thn1_some]
  cases b with
  | true =>
    obtain ⟨y, M3, h6, h7, h8⟩ := h4 rfl
    simp only [if_true, h6, thn1_some]
    rw [if_pos (by rw [sizeLine_eq]; omega)]
    exact h8
  | false =>
    rw [if_neg (by decide)]
    exact h5 rfl
theorem rgN {n : Nat} {P : List Dt → Prop} (hn : n ≤ 4000000) (h : P (nums n)) : Get (rgS (.int 0) (.int (n : Nat))) P := by
  refine ⟨_, ?_, h⟩
  have h1 : smI 0 := by unfold smI; omega
  have h2 : smI (n : Nat) := by unfold smI; omega
  simp only [rgS]
  rw [if_pos ⟨h1, h2⟩]
  unfold rgL nums
  congr 1
  rw [Int.sub_zero, Int.toNat_natCast]
  exact List.map_congr_left fun i _ => by rw [Int.zero_add]
theorem t1 {i : Nat} {e0 : Sl} {d : Dt} {P : Sl → Prop} (h : P (e0.set i (some d))) : Get (Tgt.m (.one i) d e0) P := ⟨_, rfl, h⟩
theorem tm {is : List Nat} {ds : List Dt} {e0 : Sl} {P : Sl → Prop} (hl : ds.length = is.length) (h : P (setAll is ds e0)) : Get (Tgt.m (.many is) (.tup ds) e0) P := ⟨_, by simp only [Tgt.m, if_pos hl], h⟩
theorem yes {e : Sl} {M : Mem} {Q : Bool → Mem → Prop} (h : Q true M) : Wp (yesT e M) Q := ret h
/-- .. that makes one item of each and changes nothing -/
theorem lcMap {gd : Mem → Prop} {t : Tgt} {el : EM} {e0 : Sl} {α : Type} {f : α → Dt} {Q : List Dt → Mem → Prop} {xs : List α} {M : Mem} (g : α → Dt) (hz : xs.length ≤ 100000) (hg : gd M)
    (hs : ∀ x ∈ xs, Get (t.m (f x) e0) fun e1 => Wp (el e1 M) fun d M3 => d = g x ∧ M3 = M) (he : Q (xs.map g) M) : Wp (lcL gd t yesT el e0 (xs.map f) [] M) Q := by
  refine lcInv (fun pre acc M1 => acc = pre.map g ∧ M1 = M) hz ⟨rfl, rfl⟩ ?_ ?_
  · rintro pre x post acc M1 hx ⟨rfl, rfl⟩
    obtain ⟨e1, h1, h2⟩ := hs x (by rw [hx]; simp)
    exact ⟨hg, e1, h1, yes (br_t (h2.mono fun d M3 h => ⟨by rw [h.1]; simp, h.2⟩))⟩
  · rintro acc M1 ⟨rfl, rfl⟩
    exact ⟨hg, he⟩
theorem lcFil {gd : Mem → Prop} {t : Tgt} {c : TM} {el : EM} {e0 : Sl} {α : Type} {f : α → Dt} {Q : List Dt → Mem → Prop} {xs : List α} {M : Mem} (p : α → Bool) (g : α → Dt) (hz : xs.length ≤ 100000) (hg : gd M)
    (hs : ∀ x ∈ xs, Get (t.m (f x) e0) fun e1 => Wp (c e1 M) fun b M2 => b = p x ∧ M2 = M ∧ (p x = true → Wp (el e1 M) fun d M3 => d = g x ∧ M3 = M)) (he : Q ((xs.filter p).map g) M) : Wp (lcL gd t c el e0 (xs.map f) [] M) Q := by
  refine lcInv (fun pre acc M1 => acc = (pre.filter p).map g ∧ M1 = M) hz ⟨rfl, rfl⟩ ?_ ?_
  · rintro pre x post acc M1 hx ⟨rfl, rfl⟩
    obtain ⟨e1, h1, h2⟩ := hs x (by rw [hx]; simp)
    refine ⟨hg, e1, h1, h2.mono ?_⟩
    rintro b M2 ⟨rfl, rfl, h3⟩
    exact ⟨fun hb => (h3 hb).mono fun d M3 h => ⟨by rw [h.1, List.filter_append, List.filter_cons_of_pos hb]; simp, h.2⟩, fun hb => ⟨by rw [List.filter_append, List.filter_cons_of_neg (by rw [hb]; decide)]; simp, rfl⟩⟩
  · rintro acc M1 ⟨rfl, rfl⟩
    exact ⟨hg, he⟩
/-! ### cells behind a memory -/
section
variable {M l l2 : Mem} {c d : Option Dt} {k : Nat}
theorem m_len : (M ++ l).length = M.length + l.length := List.length_append
theorem m_get0 : (M ++ c :: l)[M.length]? = some c := by rw [List.getElem?_append_right (Nat.le_refl _), Nat.sub_self]; rfl
theorem m_getK : (M ++ l)[M.length + k]? = l[k]? := by rw [List.getElem?_append_right (Nat.le_add_right _ _), Nat.add_sub_cancel_left]
theorem m_set0 : (M ++ c :: l).set M.length d = M ++ d :: l := by rw [List.set_append_right _ _ (Nat.le_refl _), Nat.sub_self]; rfl
theorem m_setK : (M ++ l).set (M.length + k) d = M ++ l.set k d := by rw [List.set_append_right _ _ (Nat.le_add_right _ _), Nat.add_sub_cancel_left]
theorem m_app : (M ++ l) ++ l2 = M ++ (l ++ l2) := List.append_assoc _ _ _
end
/-! ### cells of a memory that grows and changes -/
def Pfx (M M' : Mem) : Prop := ∃ t, M' = M ++ t
section
variable {M M' t : Mem} {c d : Option Dt} {i j : Nat}
theorem Pfx.refl : Pfx M M := ⟨[], (List.append_nil M).symm⟩
theorem Pfx.app (h : Pfx M M') : Pfx M (M' ++ t) := by
  obtain ⟨s, rfl⟩ := h
  exact ⟨s ++ t, List.append_assoc _ _ _⟩
theorem Pfx.set (h : Pfx M M') (hi : M.length ≤ i) : Pfx M (M'.set i c) := by
  obtain ⟨s, rfl⟩ := h
  exact ⟨s.set (i - M.length) c, by rw [List.set_append_right _ _ hi]⟩
theorem Pfx.len (h : Pfx M M') : M.length ≤ M'.length := by
  obtain ⟨s, rfl⟩ := h
  rw [List.length_append]; omega
theorem Pfx.trans {M2 : Mem} (h : Pfx M M') (k : Pfx M' M2) : Pfx M M2 := by
  obtain ⟨s, rfl⟩ := h
  obtain ⟨u, rfl⟩ := k
  exact ⟨s ++ u, List.append_assoc _ _ _⟩
theorem Pfx.get (h : Pfx M M') (g : M[i]? = some c) : M'[i]? = some c := by
  obtain ⟨s, rfl⟩ := h
  rw [List.getElem?_append_left (List.getElem?_eq_some_iff.mp g).1]
  exact g
theorem getA (g : M[i]? = some c) : (M ++ t)[i]? = some c := Pfx.refl.app.get g
theorem getL : (M ++ [c])[M.length]? = some c := List.getElem?_concat_length
theorem getS (g : M[i]? = some d) : (M.set i c)[i]? = some c := List.getElem?_set_self (List.getElem?_eq_some_iff.mp g).1
theorem getN (hn : i ≠ j) (g : M[j]? = some d) : (M.set i c)[j]? = some d := by rw [List.getElem?_set_ne hn]; exact g
theorem cell_lt (g : M[i]? = some c) : i < M.length := (List.getElem?_eq_some_iff.mp g).1
theorem cell_ne {d : Option Dt} (g : M[i]? = some c) (k : M[j]? = some d) (h : c ≠ d) : i ≠ j := fun e => by
  subst e
  rw [g] at k
  exact h (Option.some.inj k)
end
/-! ### dicts by key -/
abbrev KD := List (NestedKey × Dt)
def kks (d : KD) : List Dt := d.map fun p => toD p.1
def kvs (d : KD) : List Dt := d.map fun p => p.2
def kget : KD → NestedKey → Option Dt
  | [], _ => none
  | (k, v) :: d, n => if k = n then some v else kget d n
def kput : KD → NestedKey → Dt → KD
  | [], n, v => [(n, v)]
  | (k, u) :: d, n, v => if k = n then (k, v) :: d else (k, u) :: kput d n v
def kdD (d : KD) : Dt := .dic (kks d) (kvs d)
theorem kks_keys (d : KD) : toKeys (kks d) = some (d.map (·.1)) := by
  unfold kks
  rw [show (d.map fun p => toD p.1) = toDs (d.map (·.1)) from by rw [toDs_map, List.map_map]; rfl]
  exact toKeys_toDs _
theorem ixK_cons (n k : NestedKey) (ns : List NestedKey) : ixK n (k :: ns) = if k = n then some 0 else (ixK n ns).map (· + 1) := by
  unfold ixK
  rw [List.findIdx?_cons]
  by_cases h : k = n
  · rw [decide_eq_true h, if_pos h]; rfl
  · rw [decide_eq_false h, if_neg h]; rfl
theorem kget_find (n : NestedKey) : ∀ d : KD, findD (kks d) (kvs d) n = kget d n := by
  intro d
  unfold findD ixD'
  rw [kks_keys, Option.bind_some]
  induction d with
  | nil => rfl
  | cons p d ih =>
    obtain ⟨k, v⟩ := p
    rw [List.map_cons, ixK_cons, kget]
    by_cases h : k = n
    · rw [if_pos h, if_pos h]; rfl
    · rw [if_neg h, if_neg h, ← ih]
      cases hh : ixK n (d.map (·.1)) with
      | none => rfl
      | some i => simp [kvs]
theorem kput_put (n : NestedKey) (v : Dt) : ∀ d : KD, putD (kks d) (kvs d) n (toD n) v = (kks (kput d n v), kvs (kput d n v)) := by
  intro d
  unfold putD ixD'
  rw [kks_keys, Option.bind_some]
  induction d with
  | nil => rfl
  | cons p d ih =>
    obtain ⟨k, u⟩ := p
    rw [List.map_cons, ixK_cons, kput]
    by_cases h : k = n
    · rw [if_pos h, if_pos h]; rfl
    · rw [if_neg h, if_neg h]
      cases hh : ixK n (d.map (·.1)) with
      | none =>
        rw [hh] at ih
        simp only [Option.map_none] at ih ⊢
        simp only [Prod.mk.injEq, kks, kvs, List.map_cons, List.cons_append, List.cons.injEq] at ih ⊢
        exact ⟨⟨True.intro, ih.1⟩, True.intro, ih.2⟩
      | some i =>
        rw [hh] at ih
        simp only [Option.map_some] at ih ⊢
        simp only [Prod.mk.injEq, kks, kvs, List.map_cons, List.set_cons_succ, List.cons.injEq] at ih ⊢
        exact ⟨⟨True.intro, ih.1⟩, True.intro, ih.2⟩
theorem kget_isSome (n : NestedKey) : ∀ d : KD, (kget d n).isSome = (ixD' (kks d) n).isSome := by
  intro d
  unfold ixD'
  rw [kks_keys, Option.bind_some]
  induction d with
  | nil => rfl
  | cons p d ih =>
    obtain ⟨k, v⟩ := p
    rw [List.map_cons, ixK_cons, kget]
    by_cases h : k = n
    · rw [if_pos h, if_pos h]; rfl
    · rw [if_neg h, if_neg h, ih]
      cases ixK n (d.map (·.1)) <;> rfl
theorem kget_put (n m : NestedKey) (v : Dt) : ∀ d : KD, kget (kput d n v) m = if n = m then some v else kget d m
  | [] => by rw [kput, kget, kget]; rfl
  | (k, u) :: d => by
    rw [kput]
    by_cases h : k = n
    · subst h
      rw [if_pos rfl, kget, kget]
      by_cases h2 : k = m
      · rw [if_pos h2, if_pos h2]
      · rw [if_neg h2, if_neg h2, if_neg h2]
    · rw [if_neg h, kget, kget, kget_put n m v d]
      by_cases h2 : k = m
      · rw [if_pos h2, if_pos h2, if_neg (fun z => h (h2.trans z.symm))]
      · rw [if_neg h2, if_neg h2]
theorem kput_len (n : NestedKey) (v : Dt) : ∀ d : KD, (kput d n v).length ≤ d.length + 1
  | [] => Nat.le_refl _
  | (k, u) :: d => by
    rw [kput]
    by_cases h : k = n
    · rw [if_pos h]; simp
    · rw [if_neg h, List.length_cons, List.length_cons]
      have := kput_len n v d
      omega
theorem kput_new {n : NestedKey} {v : Dt} : ∀ {d : KD}, kget d n = none → kput d n v = d ++ [(n, v)]
  | [], _ => rfl
  | (k, u) :: d, h => by
    rw [kget] at h
    rw [kput]
    by_cases hk : k = n
    · rw [if_pos hk] at h; cases h
    · rw [if_neg hk] at h ⊢
      rw [kput_new h]; rfl
theorem kput_mem {n : NestedKey} {v : Dt} {p : NestedKey × Dt} : ∀ {d : KD}, p ∈ kput d n v → p = (n, v) ∨ p ∈ d
  | [], h => by simp only [kput, List.mem_singleton] at h; exact .inl h
  | (k, u) :: d, h => by
    rw [kput] at h
    by_cases hk : k = n
    · rw [if_pos hk] at h
      rcases List.mem_cons.mp h with h | h
      · subst hk; exact .inl h
      · exact .inr (List.mem_cons_of_mem _ h)
    · rw [if_neg hk] at h
      rcases List.mem_cons.mp h with h | h
      · exact .inr (by rw [h]; exact List.mem_cons_self)
      · exact (kput_mem h).imp id (List.mem_cons_of_mem _)
theorem kget_mem {n : NestedKey} {v : Dt} : ∀ {d : KD}, kget d n = some v → (n, v) ∈ d
  | [], h => by simp [kget] at h
  | (k, u) :: d, h => by
    rw [kget] at h
    by_cases hk : k = n
    · rw [if_pos hk] at h; cases h; subst hk; exact List.mem_cons_self
    · rw [if_neg hk] at h
      exact List.mem_cons_of_mem _ (kget_mem h)
theorem keyN_toD {k : NestedKey} (h : k.depth ≤ 8) : keyN (toD k) = some k := by
  unfold keyN
  rw [toKey_toD, Option.bind_some, if_pos h]
section
variable {M : Mem} {i : Nat} {D : KD} {k : NestedKey} {v d : Dt} {Q : Dt → Mem → Prop}
theorem dictAt_r (g : M[i]? = some (some (kdD D))) : dictAt M (.ref i) = some (kks D, kvs D) := by simp only [dictAt, g, kdD]
theorem kIn (g : M[i]? = some (some (kdD D))) (hk : k.depth ≤ 8) (h : Q (.bl (kget D k).isSome) M) : Wp (inD (toD k) (.ref i) M) Q := by
  refine inW ?_ h
  unfold inO
  simp only [dictAt_r g, keyN_toD hk, Option.map_some, kget_isSome]
theorem kNi (g : M[i]? = some (some (kdD D))) (hk : k.depth ≤ 8) (h : Q (.bl (!(kget D k).isSome)) M) : Wp (notInD (toD k) (.ref i) M) Q := by
  refine niW ?_ h
  unfold inO
  simp only [dictAt_r g, keyN_toD hk, Option.map_some, kget_isSome]
theorem kIx (g : M[i]? = some (some (kdD D))) (hk : k.depth ≤ 8) (hv : kget D k = some v) (h : Q v M) : Wp (ixA (.ref i) (toD k) M) Q := by
  refine .of (a := v) (M' := M) ?_ h
  unfold ixA
  simp only [dictAt_r g, keyN_toD hk, Option.bind_some, kget_find, hv, pur_some]
theorem kIxD (hk : k.depth ≤ 8) (hv : kget D k = some v) (h : Q v M) : Wp (ixA (kdD D) (toD k) M) Q := by
  refine .of (a := v) (M' := M) ?_ h
  unfold ixA
  simp only [kdD, dictAt, keyN_toD hk, Option.bind_some, kget_find, hv, pur_some]
theorem kGet1 (g : M[i]? = some (some (kdD D))) (hk : k.depth ≤ 8) (h : Q ((kget D k).getD .non) M) : Wp (getG (.ref i) [toD k] M) Q := by
  refine .of (M' := M) ?_ h
  unfold getG
  simp only [dictAt_r g, keyN_toD hk, Option.map_some, kget_find, pur_some]
theorem kGet1D (hk : k.depth ≤ 8) (h : Q ((kget D k).getD .non) M) : Wp (getG (kdD D) [toD k] M) Q := by
  refine .of (M' := M) ?_ h
  unfold getG
  simp only [kdD, dictAt, keyN_toD hk, Option.map_some, kget_find, pur_some]
theorem kGet2 (g : M[i]? = some (some (kdD D))) (hk : k.depth ≤ 8) (h : Q ((kget D k).getD d) M) : Wp (getG (.ref i) [toD k, d] M) Q := by
  refine .of (M' := M) ?_ h
  unfold getG
  simp only [dictAt_r g, keyN_toD hk, Option.map_some, kget_find, pur_some]
theorem kGet2D (hk : k.depth ≤ 8) (h : Q ((kget D k).getD d) M) : Wp (getG (kdD D) [toD k, d] M) Q := by
  refine .of (M' := M) ?_ h
  unfold getG
  simp only [kdD, dictAt, keyN_toD hk, Option.map_some, kget_find, pur_some]
theorem kSt {P : Mem → Prop} (g : M[i]? = some (some (kdD D))) (hk : k.depth ≤ 8) (hz : D.length < 100000) (h : P (M.set i (some (kdD (kput D k v))))) : Get (storeD M (.ref i) (toD k) v) P := by
  refine .mk (a := M.set i (some (kdD (kput D k v)))) ?_ h
  have hl : (kks D).length < sizeLine := by unfold kks; rw [List.length_map, sizeLine_eq]; omega
  have g2 : M[i]? = some (some (Dt.dic (kks D) (kvs D))) := g
  simp only [storeD, g2]
  rw [if_pos hl, keyN_toD hk, Option.map_some, kput_put]
  rfl
theorem kSd (g : M[i]? = some (some (kdD D))) (hk : k.depth ≤ 8) (hz : D.length < 100000) (h : (∀ u, kget D k = some u → Q u M) ∧ (kget D k = none → Q v (M.set i (some (kdD (kput D k v)))))) : Wp (sdG (.ref i) [toD k, v] M) Q := by
  have hl : (kks D).length < sizeLine := by unfold kks; rw [List.length_map, sizeLine_eq]; omega
  have g2 : M[i]? = some (some (Dt.dic (kks D) (kvs D))) := g
  unfold sdG
  simp only [g2]
  rw [if_pos hl, keyN_toD hk]
  simp only [kget_find]
  cases hg : kget D k with
  | none => exact .of (by rw [kput_put]; rfl) (h.2 hg)
  | some u => exact .of rfl (h.1 u hg)
theorem kInI {p : Int} (g : M[i]? = some (some (kdD D))) (h : Q (.bl (kget D (.num p)).isSome) M) : Wp (inD (.int p) (.ref i) M) Q := kIn (k := .num p) g (Nat.zero_le _) h
theorem kNiI {p : Int} (g : M[i]? = some (some (kdD D))) (h : Q (.bl (!(kget D (.num p)).isSome)) M) : Wp (notInD (.int p) (.ref i) M) Q := kNi (k := .num p) g (Nat.zero_le _) h
theorem kIxI {p : Int} (g : M[i]? = some (some (kdD D))) (hv : kget D (.num p) = some v) (h : Q v M) : Wp (ixA (.ref i) (.int p) M) Q := kIx (k := .num p) g (Nat.zero_le _) hv h
theorem kGet1I {p : Int} (g : M[i]? = some (some (kdD D))) (h : Q ((kget D (.num p)).getD .non) M) : Wp (getG (.ref i) [.int p] M) Q := kGet1 (k := .num p) g (Nat.zero_le _) h
theorem kGet2I {p : Int} (g : M[i]? = some (some (kdD D))) (h : Q ((kget D (.num p)).getD d) M) : Wp (getG (.ref i) [.int p, d] M) Q := kGet2 (k := .num p) g (Nat.zero_le _) h
theorem kGet1DI {p : Int} (h : Q ((kget D (.num p)).getD .non) M) : Wp (getG (kdD D) [.int p] M) Q := kGet1D (k := .num p) (Nat.zero_le _) h
theorem kGet2DI {p : Int} (h : Q ((kget D (.num p)).getD d) M) : Wp (getG (kdD D) [.int p, d] M) Q := kGet2D (k := .num p) (Nat.zero_le _) h
theorem kStI {p : Int} {P : Mem → Prop} (g : M[i]? = some (some (kdD D))) (hz : D.length < 100000) (h : P (M.set i (some (kdD (kput D (.num p) v))))) : Get (storeD M (.ref i) (.int p) v) P := kSt (k := .num p) g (Nat.zero_le _) hz h
theorem kSdI {p : Int} (g : M[i]? = some (some (kdD D))) (hz : D.length < 100000) (h : (∀ u, kget D (.num p) = some u → Q u M) ∧ (kget D (.num p) = none → Q v (M.set i (some (kdD (kput D (.num p) v)))))) : Wp (sdG (.ref i) [.int p, v] M) Q := kSd (k := .num p) g (Nat.zero_le _) hz h
/-- a dict's empty form -/
theorem kd_nil : (some (.dic [] []) : Option Dt) = some (kdD []) := rfl
theorem isD_k (g : M[i]? = some (some (kdD D))) : isD M (.ref i) = true := isD_r g
theorem isD_kd : isD M (kdD D) = true := rfl
theorem newK {e : Sl} (h : Q (.ref M.length) (M ++ [some (kdD [])])) : Wp (newDict e M) Q := newD h
theorem cls_keys (n : Nat) : ∀ d : KD, DL.Cls n (kks d)
  | [] => by simp [kks, DL.Cls]
  | (k, v) :: d => by
    show DL.Cls n (toD k :: kks d)
    simp only [DL.Cls]
    exact ⟨cl_toD n k, cls_keys n d⟩
theorem cl_kd {n : Nat} {d : KD} (h : ∀ p ∈ d, DL.Cl n p.2) : DL.Cl n (kdD d) := by
  have hv : ∀ d : KD, (∀ p ∈ d, DL.Cl n p.2) → DL.Cls n (kvs d) := by
    intro d
    induction d with
    | nil => intro _; simp [kvs, DL.Cls]
    | cons p d ih =>
      intro h
      show DL.Cls n (p.2 :: kvs d)
      simp only [DL.Cls]
      exact ⟨h p List.mem_cons_self, ih fun q hq => h q (List.mem_cons_of_mem _ hq)⟩
  show DL.Cl n (.dic (kks d) (kvs d))
  simp only [DL.Cl]
  exact ⟨cls_keys n d, hv d h⟩
theorem range_pre {n x : Nat} {pre post : List Nat} (h : List.range n = pre ++ x :: post) : x = pre.length ∧ x < n := by
  have h1 : (List.range n)[pre.length]? = some x := by rw [h]; simp
  have h2 : pre.length < n := by
    have := congrArg List.length h
    rw [List.length_range, List.length_append, List.length_cons] at this
    omega
  rw [List.getElem?_range h2] at h1
  have := Option.some.inj h1
  omega
end
/-! ### which group of rules a goal belongs to -/
section
variable {e : Sl} {M : Mem} {ds : List Dt} {x y : Dt} {A B : Prop} {c : Bool}
theorem gS {m : Option (Fl × Sl × Mem)} {Q : Fl → Sl → Mem → Prop} (h : WS m Q) : WS m Q := h
theorem gE {m : EM} {Q : Dt → Mem → Prop} (h : Wp (m e M) Q) : Wp (m e M) Q := h
theorem gT {m : TM} {Q : Bool → Mem → Prop} (h : Wp (m e M) Q) : Wp (m e M) Q := h
theorem gA {m : AM} {Q : List Dt → Mem → Prop} (h : Wp (m e M) Q) : Wp (m e M) Q := h
theorem gI {m : IM} {Q : Src → Mem → Prop} (h : Wp (m e M) Q) : Wp (m e M) Q := h
theorem gG {m : Option (Sl × Mem)} {Q : Sl → Mem → Prop} (h : Wp m Q) : Wp m Q := h
theorem gO {m : OM} {Q : Option Int → Mem → Prop} (h : Wp (m e M) Q) : Wp (m e M) Q := h
theorem gFn {F : FM} {Q : Dt → Mem → Prop} (h : Wp (F ds M) Q) : Wp (F ds M) Q := h
theorem g2 {g : Dt → Dt → Mem → Option (Dt × Mem)} {Q : Dt → Mem → Prop} (h : Wp (g x y M) Q) : Wp (g x y M) Q := h
theorem gMt {g : Dt → List Dt → Mem → Option (Dt × Mem)} {Q : Dt → Mem → Prop} (h : Wp (g x ds M) Q) : Wp (g x ds M) Q := h
theorem gGd {o : Option Dt} {P : Dt → Prop} (h : Get o P) : Get o P := h
theorem gGs {o : Option Src} {P : Src → Prop} (h : Get o P) : Get o P := h
theorem gGl {o : Option (List Dt)} {P : List Dt → Prop} (h : Get o P) : Get o P := h
theorem gGm {o : Option Mem} {P : Mem → Prop} (h : Get o P) : Get o P := h
theorem gB (h : Br c A B) : Br c A B := h
end
end Vc
/-! The data layer, part u: the program's rank, and what is sorted by it. -/
local macro_rules | `(tactic| walk_at "vc1") => `(tactic| first
  | with_reducible apply Vc.seq
  | with_reducible apply Vc.sk_nx
  | with_reducible apply Vc.sk_rt
  | with_reducible apply Vc.sk_bk
  | with_reducible apply Vc.sk_ct
  | with_reducible apply Vc.be_rt
  | with_reducible apply Vc.be_nx
  | with_reducible apply Vc.le_nx
  | with_reducible apply Vc.le_ct
  | with_reducible apply Vc.le_bk
  | with_reducible apply Vc.le_rt
  | with_reducible apply Vc.set'
  | with_reducible apply Vc.if'
  | ((with_reducible apply Vc.var); exact rfl)
  | with_reducible apply Vc.con
  | with_reducible apply Vc.op
  | with_reducible apply Vc.br_t
  | with_reducible apply Vc.br_f
  | with_reducible apply Vc.br_n
  | ((with_reducible apply Vc.br_dt); (first | with_reducible assumption | omega | (simp only [List.length_map, List.length_append, List.length_cons, List.length_nil]; omega)))
  | ((with_reducible apply Vc.br_df); (first | with_reducible assumption | omega | (simp only [List.length_map, List.length_append, List.length_cons, List.length_nil]; omega)))
  | ((with_reducible apply Vc.br_eqt); with_reducible assumption)
  | ((with_reducible apply Vc.br_eqf); with_reducible assumption)
  | with_reducible apply Vc.br_nn
  | with_reducible apply Vc.br_ni
  | with_reducible apply Vc.br_nt
  | with_reducible apply Vc.br_ns
  | with_reducible apply Vc.br_nl
  | with_reducible apply Vc.br_nr
  | with_reducible apply Vc.isB
  | with_reducible apply Vc.bl
  | with_reducible apply Vc.p2
  | with_reducible apply Vc.ltI
  | with_reducible apply Vc.eqI
  | with_reducible apply Vc.neI
  | with_reducible apply Vc.addN1
  | with_reducible apply Vc.add1N
  | with_reducible apply Vc.aNN
  | with_reducible apply Vc.addI
  | ((with_reducible apply Vc.addLm); omega)
  | ((with_reducible apply Vc.addL); (first | omega | (simp only [List.length_map, List.length_append, List.length_cons, List.length_nil]; omega)))
  | ((with_reducible apply Vc.addT); (first | omega | (simp only [List.length_map, List.length_append, List.length_cons, List.length_nil]; omega)))
  | with_reducible apply Vc.subN1
  | with_reducible apply Vc.subI
  | with_reducible apply Vc.negI
  | with_reducible apply Vc.gtI'
  | with_reducible apply Vc.leI'
  | with_reducible apply Vc.geI'
  | with_reducible apply Vc.notB
  | with_reducible apply Vc.isN'
  | with_reducible apply Vc.isnN'
  | with_reducible apply Vc.ixT0
  | with_reducible apply Vc.ixT1
  | with_reducible apply Vc.ixT2
  | with_reducible apply Vc.ixT3
  | with_reducible apply Vc.ixL0
  | with_reducible apply Vc.ixL1
  | with_reducible apply Vc.ixL2
  | ((with_reducible apply Vc.ixL); (first | with_reducible assumption | (with_reducible apply Vc.mapG; with_reducible assumption)))
  | ((with_reducible apply Vc.ixT); (first | with_reducible assumption | (with_reducible apply Vc.mapG; with_reducible assumption)))
  | ((with_reducible apply Vc.ixR); walk_at "cell"; (first | with_reducible assumption | (with_reducible apply Vc.mapG; with_reducible assumption)))
  | ((with_reducible apply Vc.eqW); walk_at "eq")
  | ((with_reducible apply Vc.neW); walk_at "eq")
  | ((with_reducible apply Vc.inW); walk_at "in")
  | ((with_reducible apply Vc.niW); walk_at "in")
  | with_reducible apply Vc.lenLm
  | with_reducible apply Vc.lenTm
  | with_reducible apply Vc.lenL
  | with_reducible apply Vc.lenT
  | with_reducible apply Vc.lenK
  | ((with_reducible apply Vc.lenR); walk_at "cell")
  | with_reducible apply Vc.rt
  | with_reducible apply Vc.nx
  | with_reducible apply Vc.bk
  | with_reducible apply Vc.ct
  | with_reducible apply Vc.ex
  | with_reducible apply Vc.asg
  | with_reducible apply Vc.nameG'
  | with_reducible apply Vc.nilG'
  | with_reducible apply Vc.consG'
  | ((with_reducible apply Vc.tupG'); exact rfl)
  | with_reducible apply Vc.subG'
  | with_reducible apply Vc.for'
  | with_reducible apply Vc.fldS'
  | with_reducible apply Vc.un
  | with_reducible apply Vc.tru
  | with_reducible apply Vc.tru_b
  | with_reducible apply Vc.tru_n
  | with_reducible apply Vc.tru_i
  | with_reducible apply Vc.tru_l
  | with_reducible apply Vc.tru_t
  | ((with_reducible apply Vc.tru_r); walk_at "cell")
  | with_reducible apply Vc.and
  | with_reducible apply Vc.or
  | with_reducible apply Vc.not
  | with_reducible apply Vc.andE'
  | with_reducible apply Vc.orE'
  | with_reducible apply Vc.ifE'
  | with_reducible apply Vc.nilA'
  | with_reducible apply Vc.consA'
  | with_reducible apply Vc.tup
  | with_reducible apply Vc.lst
  | with_reducible apply Vc.lstC'
  | ((with_reducible apply And.intro); exact Nat.le_of_ble_eq_true rfl)
  | with_reducible apply Vc.call
  | with_reducible apply Vc.mk
  | with_reducible apply Vc.pF
  | with_reducible apply Vc.intI
  | with_reducible apply Vc.intB
  | with_reducible apply Vc.maxI
  | with_reducible apply Vc.minI
  | with_reducible apply Vc.frz
  | ((with_reducible apply Vc.frzR); walk_at "cell")
  | with_reducible apply Vc.newK
  | with_reducible apply Vc.fld
  | ((with_reducible apply Vc.objR); walk_at "cell")
  | ((with_reducible apply And.intro); with_reducible apply Vc.isL_r; walk_at "cell")
  | ((with_reducible apply And.intro); with_reducible apply Vc.isD_k; walk_at "cell")
  | ((with_reducible apply And.intro); (first | with_reducible exact Vc.isD_kd | with_reducible exact Vc.isD_d))
  | ((with_reducible apply Vc.app); walk_at "cell"; (first | omega | skip))
  | ((with_reducible apply Vc.extL); walk_at "cell"; (first | omega | skip))
  | ((with_reducible apply Vc.pop); walk_at "cell")
  | ((with_reducible apply Vc.itR); walk_at "cell")
  | ((with_reducible apply Vc.stL); walk_at "cell"; (first | omega | skip))
  | with_reducible apply Vc.mt
  | with_reducible apply Vc.meth
  | ((with_reducible apply Vc.objR); walk_at "cell")
  | with_reducible apply Vc.chain
  | with_reducible apply Vc.one
  | with_reducible apply Vc.enumI'
  | with_reducible apply Vc.revI'
  | with_reducible apply Vc.lsL
  | ((with_reducible apply Vc.lsR); walk_at "cell")
  | ((with_reducible apply Vc.revN); omega)
  | ((with_reducible apply Vc.gF 0); decide +kernel; exact rfl)
  | ((with_reducible apply Vc.gF 1); decide +kernel; exact rfl)
  | ((with_reducible apply Vc.gF 2); decide +kernel; exact rfl)
  | ((with_reducible apply Vc.gF 3); decide +kernel; exact rfl)
  | ((with_reducible apply Vc.gF 4); decide +kernel; exact rfl)
  | ((with_reducible apply Vc.gF 5); decide +kernel; exact rfl)
  | ((with_reducible apply Vc.gF 6); decide +kernel; exact rfl)
  | ((with_reducible apply Vc.sFn); walk_at "cell"; decide +kernel; exact Nat.le_of_ble_eq_true rfl; exact rfl)
  | ((with_reducible apply Vc.sFo 0); walk_at "cell"; decide +kernel; exact Nat.le_of_ble_eq_true rfl; exact rfl)
  | ((with_reducible apply Vc.sFo 1); walk_at "cell"; decide +kernel; exact Nat.le_of_ble_eq_true rfl; exact rfl)
  | ((with_reducible apply Vc.sFo 2); walk_at "cell"; decide +kernel; exact Nat.le_of_ble_eq_true rfl; exact rfl)
  | ((with_reducible apply Vc.sFo 3); walk_at "cell"; decide +kernel; exact Nat.le_of_ble_eq_true rfl; exact rfl)
  | ((with_reducible apply Vc.sFo 4); walk_at "cell"; decide +kernel; exact Nat.le_of_ble_eq_true rfl; exact rfl)
  | ((with_reducible apply And.intro); (refine (?_ : _ = true)); decide +kernel)
  | with_reducible apply Vc.sl
  | with_reducible apply Vc.sl1T
  | with_reducible apply Vc.noO'
  | with_reducible apply Vc.someO'
  | with_reducible apply Vc.isInt
  | ((with_reducible apply Vc.kStI); walk_at "cell"; (first | omega | skip))
  | ((with_reducible apply Vc.kGet1I); walk_at "cell")
  | with_reducible apply Vc.kGet1DI
  | with_reducible apply Vc.starA'
  | with_reducible apply Vc.seqL
  | with_reducible apply Vc.seqT
  | ((with_reducible apply Vc.seqR); walk_at "cell")
  | ((with_reducible apply Vc.isiTr); exact rfl)
  | ((with_reducible apply Vc.isiFa); exact rfl)
  | with_reducible apply Vc.lc
  | with_reducible apply Vc.rg
  | with_reducible apply Vc.cL'
  | ((with_reducible apply Vc.rgN); omega)
  | with_reducible apply Vc.seqI'
  | with_reducible apply Vc.rngI'
  | with_reducible apply Vc.itT
  | with_reducible apply Vc.itL
  | with_reducible apply Vc.itK
  | ((with_reducible apply Vc.rngN); omega)
  | ((with_reducible apply Vc.rngP); omega)
  | with_reducible apply Vc.tupleL
  | with_reducible apply Vc.tupleT
  | with_reducible apply Vc.listAL
  | with_reducible apply Vc.listAT
  | with_reducible apply Vc.listBL
  | with_reducible apply Vc.listBT
  | with_reducible apply Vc.allW
  | with_reducible apply Vc.yes
  | with_reducible apply Vc.t1
  | ((with_reducible apply Vc.Wp.of); with_reducible assumption))
local macro_rules | `(tactic| walk_at "vc") => `(tactic| repeat' walk_at "vc1")
local macro_rules | `(tactic| walk_at "eq") => `(tactic| first
  | with_reducible assumption
  | ((with_reducible apply Ev.v_eqS); walk_at "word"))
local macro_rules | `(tactic| walk_at "in") => `(tactic| first
  | with_reducible assumption
  | ((with_reducible apply Ev.v_inT); walk_at "word")
  | ((with_reducible apply Ev.v_inL); walk_at "word"))
local macro_rules | `(tactic| walk_at "word") => `(tactic| first
  | with_reducible assumption
  | (refine (?_ : _ = some true); decide +kernel)
  | (refine (?_ : _ = some false); decide +kernel))
local macro_rules | `(tactic| walk_at "cell") => `(tactic| first
  | with_reducible assumption
  | with_reducible exact Vc.getL
  | ((with_reducible apply Vc.getA); walk_at "cell")
  | ((with_reducible apply Vc.getS); walk_at "cell")
  | ((with_reducible apply Vc.getN); (first | with_reducible assumption | omega); walk_at "cell"))
namespace Sh
open PySem PySem.Spec PyProof.Rows L2 DL Ev Vc
/-! ### defs that several laws have (printed by gen.py) -/
noncomputable def m_rank (R_rank : FM) : SM :=
    (seqS (ifS (blT (opE (pure2 isND) (varE 0) (cE .non))) (rtS (tupE (consA (cE (.int 0)) nilA))) nxS)
    (seqS (ifS (truT (callE isiF (consA (varE 0) (consA (cE (.ty "tuple")) nilA)))) (rtS (tupE (consA (cE (.int 3)) (starA (lcE (seqI (varE 0)) (.one 1) yesT (callE R_rank (consA (varE 1) nilA)) [1]) nilA)))) nxS)
    (seqS (ifS (truT (callE isiF (consA (varE 0) (consA (cE (.ty "str")) nilA)))) (rtS (tupE (consA (cE (.int 2)) (consA (varE 0) nilA)))) nxS)
    (rtS (tupE (consA (cE (.int 1)) (consA (varE 0) nilA)))))))
noncomputable def F_rank : Nat → FM
  | 0 => fun _ _ => none
  | n + 1 => cutF (body 2 (m_rank (F_rank n)))
noncomputable def m_law_rank (R_law_rank : FM) : SM :=
    (seqS (ifS (blT (opE (pure2 isND) (varE 0) (cE .non))) (rtS (tupE (consA (cE (.int 0)) nilA))) nxS)
    (seqS (ifS (truT (callE isiF (consA (varE 0) (consA (cE (.ty "tuple")) nilA)))) (rtS (opE (pure2 addD) (tupE (consA (cE (.int 3)) nilA)) (callE tupleF (consA (lcE (seqI (varE 0)) (.one 1) yesT (callE R_law_rank (consA (varE 1) nilA)) [1]) nilA)))) nxS)
    (rtS (ifE (truT (callE isiF (consA (varE 0) (consA (cE (.ty "str")) nilA)))) (tupE (consA (cE (.int 2)) (consA (varE 0) nilA))) (tupE (consA (cE (.int 1)) (consA (varE 0) nilA)))))))
noncomputable def F_law_rank : Nat → FM
  | 0 => fun _ _ => none
  | n + 1 => cutF (body 2 (m_law_rank (F_law_rank n)))
noncomputable def m_law_is : SM :=
    (rtS (andE (callE isiF (consA (varE 0) (consA (cE (.ty "bool")) nilA))) (opE eqD (varE 0) (varE 1))))
noncomputable def F_law_is : FM := cutF (body 2 (m_law_is))
noncomputable def m_law_once : SM :=
    (seqS (setS 1 (lstC nilA))
    (seqS (forS (seqI (varE 0)) (nameG 2) (ifS (blT (opE notInD (varE 2) (varE 1))) (exS (mtE isL appG (varE 1) (consA (varE 2) nilA))) nxS))
    (rtS (frzE (varE 1)))))
noncomputable def F_law_once : FM := cutF (body 3 (m_law_once))
theorem eqO_bl (M : Mem) (a b : Bool) : eqO M (.bl a) (.bl b) = some (decide (a = b)) := by
  cases a <;> cases b <;> rfl
theorem is_ok (x y : Bool) (M : Mem) : F_law_is [.bl x, .bl y] M = some (.bl (decide (x = y)), M) := by
  refine cutF_id ?_ (by simp [DL.Cl])
  refine body_rt (e := [some (.bl x), some (.bl y)]) ?_
  show m_law_is [some (.bl x), some (.bl y)] M = _
  unfold m_law_is
  have h : isiF [.bl x, .ty "bool"] M = some (.bl true, M) := by simp [isiF, tyD]
  simp only [rtS, andE, callE, consA, nilA, varE, cE, List.getElem?_cons_zero, List.getElem?_cons_succ, thn1_some, h, opE, eqD, eqO_bl, Option.map_some, pur_some]
/-! ### rank -/
mutual
def rkN : NestedKey → NestedKey
  | .none => .tup [.num 0]
  | .num i => .tup [.num 1, .num i]
  | .text x => .tup [.num 2, .text x]
  | .tup ks => .tup (.num 3 :: rkNs ks)
def rkNs : List NestedKey → List NestedKey
  | [] => []
  | k :: ks => rkN k :: rkNs ks
end
theorem rkNs_map : ∀ ks : List NestedKey, rkNs ks = ks.map rkN
  | [] => rfl
  | k :: ks => by rw [rkNs, rkNs_map ks]; rfl
theorem rank_ok : ∀ (fuel : Nat) (k : NestedKey) (M : Mem), k.depth < fuel → Kz k → F_rank fuel [toD k] M = some (toD (rkN k), M)
  | 0, _, _, h, _ => absurd h (Nat.not_lt_zero _)
  | fuel + 1, k, M, hf, hz => by
    refine Vc.pureFn (fun n => cl_toD _ _) ?_
    show WS (m_rank (F_rank fuel) [some (toD k), none] M) _
    unfold m_rank
    cases k with
    | none => simp only [toD, rkN, toDs]; walk_at "vc"; exact ⟨rfl, Pfx.refl⟩
    | num n => simp only [toD, rkN, toDs]; walk_at "vc"; exact ⟨rfl, Pfx.refl⟩
    | text n => simp only [toD, rkN, toDs]; walk_at "vc"; exact ⟨rfl, Pfx.refl⟩
    | tup ks =>
      obtain ⟨hl, hp⟩ := hz.parts'
      rw [NestedKey.depth] at hf
      rw [toD_tup]
      walk_at "vc"
      refine Vc.lcMap (f := toD) (xs := ks) (fun k => toD (rkN k)) (by omega) trivial ?_ ?_
      · intro x hx
        have h1 := rank_ok fuel x M (by have := depthAll_le.mp (Nat.le_refl (NestedKey.depthAll ks)) x hx; omega) (hp x hx)
        walk_at "vc"
        exact ⟨rfl, rfl⟩
      · walk_at "vc"
        refine ⟨by simp; omega, ?_⟩
        walk_at "vc"
        refine ⟨?_, Pfx.refl⟩
        rw [rkN, rkNs_map, toD_tup, List.map_cons, List.map_map, List.append_nil]
        rfl
theorem lrank_ok : ∀ (fuel : Nat) (k : NestedKey) (M : Mem), k.depth < fuel → Kz k → F_law_rank fuel [toD k] M = some (toD (rkN k), M)
  | 0, _, _, h, _ => absurd h (Nat.not_lt_zero _)
  | fuel + 1, k, M, hf, hz => by
    refine Vc.pureFn (fun n => cl_toD _ _) ?_
    show WS (m_law_rank (F_law_rank fuel) [some (toD k), none] M) _
    unfold m_law_rank
    cases k with
    | none => simp only [toD, rkN, toDs]; walk_at "vc"; exact ⟨rfl, Pfx.refl⟩
    | num n => simp only [toD, rkN, toDs]; walk_at "vc"; exact ⟨rfl, Pfx.refl⟩
    | text n => simp only [toD, rkN, toDs]; walk_at "vc"; exact ⟨rfl, Pfx.refl⟩
    | tup ks =>
      obtain ⟨hl, hp⟩ := hz.parts'
      rw [NestedKey.depth] at hf
      rw [toD_tup]
      walk_at "vc"
      refine Vc.lcMap (f := toD) (xs := ks) (fun k => toD (rkN k)) (by omega) trivial ?_ ?_
      · intro x hx
        have h1 := lrank_ok fuel x M (by have := depthAll_le.mp (Nat.le_refl (NestedKey.depthAll ks)) x hx; omega) (hp x hx)
        walk_at "vc"
        exact ⟨rfl, rfl⟩
      · walk_at "vc"
        refine ⟨?_, Pfx.refl⟩
        rw [rkN, rkNs_map, toD_tup, List.map_cons, List.map_map]
        rfl
/-! ### the order -/
def kdN : NestedKey → Nat
  | .none => 0
  | .num _ => 1
  | .text _ => 2
  | .tup _ => 3
mutual
def ahN : NestedKey → NestedKey → Bool
  | .num a, .num b => decide (a < b)
  | .text a, .text b => decide (a.cps.toList < b.cps.toList)
  | .tup a, .tup b => ahNs a b
  | .none, b => decide (0 < kdN b)
  | .num _, .none => false
  | .num _, .text _ => true
  | .num _, .tup _ => true
  | .text _, .none => false
  | .text _, .num _ => false
  | .text _, .tup _ => true
  | .tup _, .none => false
  | .tup _, .num _ => false
  | .tup _, .text _ => false
def ahNs : List NestedKey → List NestedKey → Bool
  | [], [] => false
  | [], _ :: _ => true
  | _ :: _, [] => false
  | x :: xs, y :: ys => if x = y then ahNs xs ys else ahN x y
end
mutual
theorem rkN_inj : ∀ a b : NestedKey, rkN a = rkN b → a = b
  | .none, b, h => by cases b <;> simp [rkN] at h; rfl
  | .num i, b, h => by cases b <;> simp [rkN] at h; rw [h]
  | .text i, b, h => by cases b <;> simp [rkN] at h; rw [h]
  | .tup ks, b, h => by
    cases b with
    | tup js => simp only [rkN, NestedKey.tup.injEq, List.cons.injEq, true_and] at h; rw [rkNs_inj ks js h]
    | _ => simp [rkN] at h
theorem rkNs_inj : ∀ a b : List NestedKey, rkNs a = rkNs b → a = b
  | [], [], _ => rfl
  | [], _ :: _, h => by simp [rkNs] at h
  | _ :: _, [], h => by simp [rkNs] at h
  | x :: xs, y :: ys, h => by
    simp only [rkNs, List.cons.injEq] at h
    rw [rkN_inj x y h.1, rkNs_inj xs ys h.2]
end
mutual
theorem lt_rk : ∀ a b : NestedKey, ltK (rkN a) (rkN b) = some (ahN a b)
  | .none, b => by cases b <;> simp [rkN, ltK, ltKs, ahN, kdN]
  | .num i, b => by
    cases b <;> simp [rkN, ltK, ltKs, ahN]
    rename_i j
    intro h; omega
  | .text i, b => by
    cases b <;> simp [rkN, ltK, ltKs, ahN]
    rename_i j
    intro h; subst h
    exact List.lt_irrefl _
  | .tup ks, b => by
    cases b with
    | tup js => simp only [rkN, ltK, ltKs, ahN, if_true]; exact lts_rk ks js
    | _ => simp [rkN, ltK, ltKs, ahN]
theorem lts_rk : ∀ a b : List NestedKey, ltKs (rkNs a) (rkNs b) = some (ahNs a b)
  | [], [] => rfl
  | [], _ :: _ => rfl
  | _ :: _, [] => rfl
  | x :: xs, y :: ys => by
    simp only [rkNs, ltKs, ahNs]
    by_cases h : x = y
    · rw [if_pos h, if_pos (by rw [h])]
      exact lts_rk xs ys
    · rw [if_neg h, if_neg fun z => h (rkN_inj x y z)]
      exact lt_rk x y
end
mutual
theorem depth_rk : ∀ k : NestedKey, (rkN k).depth ≤ k.depth + 1
  | .none => by simp [rkN, NestedKey.depth, NestedKey.depthAll]
  | .num _ => by simp [rkN, NestedKey.depth, NestedKey.depthAll]
  | .text _ => by simp [rkN, NestedKey.depth, NestedKey.depthAll]
  | .tup ks => by
    have := depths_rk ks
    simp only [rkN, NestedKey.depth, NestedKey.depthAll]
    omega
theorem depths_rk : ∀ ks : List NestedKey, NestedKey.depthAll (rkNs ks) ≤ NestedKey.depthAll ks + 1
  | [] => by simp [rkNs, NestedKey.depthAll]
  | k :: ks => by
    have h1 := depth_rk k
    have h2 := depths_rk ks
    simp only [rkNs, NestedKey.depthAll]
    omega
end
mutual
theorem tx_rk : ∀ k : NestedKey, txK (rkN k) = txK k
  | .none => rfl
  | .num _ => rfl
  | .text x => by simp [rkN, txK, txKs]
  | .tup ks => by simp [rkN, txK, txKs, txs_rk ks]
theorem txs_rk : ∀ ks : List NestedKey, txKs (rkNs ks) = txKs ks
  | [] => rfl
  | k :: ks => by simp [rkNs, txKs, tx_rk k, txs_rk ks]
end
/-- the sorted list is in order -/
abbrev leR : NestedKey → NestedKey → Bool := PySem.W.sortLe (listOrd itemOrd) false fun k => tkK (rkN k)
theorem sortKD_rk (ks : List NestedKey) : sortKD (ks.map rkN) (ks.map toD) = (ks.mergeSort leR).map toD := by
  unfold sortKD
  have e : (ks.map toD).zip (ks.map rkN) = ks.map fun k => (toD k, rkN k) := by
    induction ks with
    | nil => rfl
    | cons k ks ih => simp [ih]
  rw [e, ← PySem.W.sort_maps (r := leR) (s := PySem.W.sortLe (listOrd itemOrd) false fun p : Dt × NestedKey => tkK p.2) (fun k => (toD k, rkN k)) (fun a _ b _ => rfl), List.map_map]
  rfl
theorem leR_eq (a b : NestedKey) : leR a b = !ahN b a := by
  show (!blL (tkK (rkN b)) (tkK (rkN a))) = _
  rw [lt_tk _ _ _ (lt_rk b a)]
mutual
theorem ah_anti : ∀ a b : NestedKey, ahN a b = false → ahN b a = false → a = b
  | .none, b, h, h2 => by cases b <;> simp [ahN, kdN] at h h2 ⊢
  | .num i, b, h, h2 => by
    cases b <;> simp [ahN, kdN] at h h2 ⊢
    omega
  | .text x, b, h, h2 => by
    cases b with
    | text y =>
      simp only [ahN, decide_eq_false_iff_not] at h h2
      have e : x.cps.toList = y.cps.toList := List.le_antisymm h2 h
      obtain ⟨⟨xl⟩⟩ := x
      obtain ⟨⟨yl⟩⟩ := y
      simp only at e
      subst e
      rfl
    | _ => simp [ahN, kdN] at h h2 ⊢
  | .tup ks, b, h, h2 => by
    cases b with
    | tup js => rw [ahs_anti ks js h h2]
    | _ => simp [ahN, kdN] at h h2 ⊢
theorem ahs_anti : ∀ a b : List NestedKey, ahNs a b = false → ahNs b a = false → a = b
  | [], [], _, _ => rfl
  | [], _ :: _, h, _ => by simp [ahNs] at h
  | _ :: _, [], _, h => by simp [ahNs] at h
  | x :: xs, y :: ys, h, h2 => by
    simp only [ahNs] at h h2
    by_cases e : x = y
    · rw [if_pos e] at h
      rw [if_pos e.symm] at h2
      rw [e, ahs_anti xs ys h h2]
    · rw [if_neg e] at h
      rw [if_neg fun z => e z.symm] at h2
      exact absurd (ah_anti x y h h2) e
end
/-- the things in order -/
noncomputable def srt (ks : List NestedKey) : List NestedKey := ks.mergeSort leR
theorem srt_perm (ks : List NestedKey) : (srt ks).Perm ks := List.mergeSort_perm ks leR
theorem srt_mem {ks : List NestedKey} {k : NestedKey} : k ∈ srt ks ↔ k ∈ ks := (srt_perm ks).mem_iff
theorem srt_len (ks : List NestedKey) : (srt ks).length = ks.length := (srt_perm ks).length_eq
theorem srt_nodup {ks : List NestedKey} (h : ks.Nodup) : (srt ks).Nodup := (srt_perm ks).nodup_iff.mpr h
theorem srt_same {as bs : List NestedKey} (h : as.Perm bs) : srt as = srt bs := by
  have T := PySem.W.sortLe_total (listOrd itemOrd) false fun k => tkK (rkN k)
  refine PySem.W.sort_one T _ _ (PySem.W.sort_pairwise T as) (PySem.W.sort_pairwise T bs) fun c => ?_
  have all : ∀ l : List NestedKey, l.filter (PySem.W.sameRank leR c) = List.replicate (l.filter (PySem.W.sameRank leR c)).length c := fun l => by
    refine List.eq_replicate_iff.mpr ⟨rfl, fun x hx => ?_⟩
    have := (List.mem_filter.mp hx).2
    unfold PySem.W.sameRank at this
    rw [Bool.and_eq_true, leR_eq, leR_eq, Bool.not_eq_true', Bool.not_eq_true'] at this
    exact ah_anti x c this.1 this.2
  have hp : ((as.mergeSort leR).filter (PySem.W.sameRank leR c)).length = ((bs.mergeSort leR).filter (PySem.W.sameRank leR c)).length :=
    (((List.mergeSort_perm as leR).trans (h.trans (List.mergeSort_perm bs leR).symm)).filter _).length_eq
  show (as.mergeSort leR).filter _ = (bs.mergeSort leR).filter _
  rw [all (as.mergeSort leR), all (bs.mergeSort leR), hp]
theorem perm_of {as bs : List NestedKey} (ha : as.Nodup) (hb : bs.Nodup) (h : ∀ x, x ∈ as ↔ x ∈ bs) : as.Perm bs := (List.perm_ext_iff_of_nodup ha hb).mpr h
theorem srt_rk {ks : List NestedKey} (hd : ∀ k ∈ ks, k.depth ≤ 10) : ordsN ((ks.map rkN).map toD) = some (ks.map rkN) := by
  unfold ordsN
  rw [← toDs_map, toOrds_toDs]
  simp only
  rw [if_pos]
  have hh : ∀ k : NestedKey, hdK (rkN k) = some 1 := fun k => by cases k <;> rfl
  unfold srtB
  rw [Bool.and_eq_true, List.all_eq_true]
  refine ⟨?_, fun x hx => ?_⟩
  · cases ks with
    | nil => rfl
    | cons k ks =>
      rw [List.map_cons]
      simp only
      rw [Bool.and_eq_true, List.all_eq_true]
      refine ⟨by rw [hh]; rfl, fun m hm => ?_⟩
      rw [← List.map_cons] at hm
      obtain ⟨m', _, rfl⟩ := List.mem_map.mp hm
      rw [hh, hh]
      rfl
  · obtain ⟨x', hx', rfl⟩ := List.mem_map.mp hx
    rw [Bool.and_eq_true, List.all_eq_true]
    refine ⟨decide_eq_true (by have := depth_rk x'; have := hd x' hx'; omega), fun y hy => ?_⟩
    obtain ⟨y', _, rfl⟩ := List.mem_map.mp hy
    rw [lt_rk]
    rfl
theorem mapF_rk {F : FM} {M : Mem} : ∀ ks : List NestedKey, (∀ k ∈ ks, F [toD k] M = some (toD (rkN k), M)) → mapF F (ks.map toD) M = some ((ks.map rkN).map toD, M)
  | [], _ => rfl
  | k :: ks, h => by
    rw [List.map_cons, mapF, h k List.mem_cons_self, thn1_some, mapF_rk ks fun x hx => h x (List.mem_cons_of_mem _ hx)]
    rfl
/-- sorted(things, key=rank) -/
theorem sortW {F : FM} {m : EM} {e : Sl} {M : Mem} {Q : Dt → Mem → Prop} (h : Wp (m e M) fun d M1 => ∃ ks : List NestedKey, seqAt M1 d = some (ks.map toD) ∧ (∀ k ∈ ks, k.depth ≤ 10 ∧ F [toD k] M1 = some (toD (rkN k), M1)) ∧ Q (.lst ((srt ks).map toD)) M1) : Wp (sortE F m e M) Q := by
  obtain ⟨d, M1, h1, ks, h2, h3, h4⟩ := h
  refine .of ?_ h4
  unfold sortE
  rw [h1]
  simp only [thn1_some, h2]
  rw [mapF_rk ks fun k hk => (h3 k hk).2]
  simp only [thn1_some, srt_rk fun k hk => (h3 k hk).1]
  rw [sortKD_rk]
  rfl
end Sh
/-! The data layer, part w: machines over stacks: their ways, worked out. -/
local macro_rules | `(tactic| walk_at "vcS") => `(tactic| first
  | with_reducible apply Vc.seq
  | with_reducible apply Vc.set'
  | with_reducible apply Vc.if'
  | with_reducible apply Vc.rt
  | with_reducible apply Vc.nx
  | with_reducible apply Vc.bk
  | with_reducible apply Vc.ct
  | with_reducible apply Vc.ex
  | with_reducible apply Vc.asg
  | with_reducible apply Vc.for'
  | with_reducible apply Vc.fldS')
local macro_rules | `(tactic| walk_at "vcE") => `(tactic| first
  | ((with_reducible apply Vc.var); exact rfl)
  | with_reducible apply Vc.con
  | with_reducible apply Vc.op
  | with_reducible apply Vc.un
  | with_reducible apply Vc.andE'
  | with_reducible apply Vc.orE'
  | with_reducible apply Vc.ifE'
  | with_reducible apply Vc.tup
  | with_reducible apply Vc.lst
  | with_reducible apply Vc.lstC'
  | with_reducible apply Vc.call
  | with_reducible apply Vc.frz
  | with_reducible apply Vc.newK
  | with_reducible apply Vc.fld
  | with_reducible apply Vc.mt
  | with_reducible apply Vc.meth
  | with_reducible apply Vc.mk
  | with_reducible apply Vc.chain
  | with_reducible apply Vc.sl
  | with_reducible apply Vc.lc
  | with_reducible apply Vc.rg
  | ((with_reducible apply Vc.Wp.of); with_reducible assumption))
local macro_rules | `(tactic| walk_at "vcT") => `(tactic| first
  | with_reducible apply Vc.bl
  | with_reducible apply Vc.tru
  | with_reducible apply Vc.and
  | with_reducible apply Vc.or
  | with_reducible apply Vc.not
  | with_reducible apply Vc.yes
  | ((with_reducible apply Vc.Wp.of); with_reducible assumption))
local macro_rules | `(tactic| walk_at "vcA") => `(tactic| first
  | with_reducible apply Vc.nilA'
  | with_reducible apply Vc.consA'
  | with_reducible apply Vc.starA'
  | ((with_reducible apply Vc.Wp.of); with_reducible assumption))
local macro_rules | `(tactic| walk_at "vcI") => `(tactic| first
  | with_reducible apply Vc.seqI'
  | with_reducible apply Vc.rngI'
  | with_reducible apply Vc.enumI'
  | with_reducible apply Vc.revI')
local macro_rules | `(tactic| walk_at "vcG") => `(tactic| first
  | with_reducible apply Vc.nameG'
  | with_reducible apply Vc.nilG'
  | with_reducible apply Vc.consG'
  | ((with_reducible apply Vc.tupG'); exact rfl)
  | with_reducible apply Vc.subG')
local macro_rules | `(tactic| walk_at "vcO") => `(tactic| first
  | with_reducible apply Vc.noO'
  | with_reducible apply Vc.someO')
local macro_rules | `(tactic| walk_at "vcK") => `(tactic| first
  | with_reducible apply Vc.sk_nx
  | with_reducible apply Vc.sk_rt
  | with_reducible apply Vc.sk_bk
  | with_reducible apply Vc.sk_ct
  | with_reducible apply Vc.be_rt
  | with_reducible apply Vc.be_nx
  | with_reducible apply Vc.le_nx
  | with_reducible apply Vc.le_ct
  | with_reducible apply Vc.le_bk
  | with_reducible apply Vc.le_rt)
local macro_rules | `(tactic| walk_at "vcB") => `(tactic| first
  | with_reducible apply Vc.br_t
  | with_reducible apply Vc.br_f
  | with_reducible apply Vc.br_n
  | with_reducible apply Vc.br_nn
  | with_reducible apply Vc.br_ni
  | with_reducible apply Vc.br_nt
  | with_reducible apply Vc.br_ns
  | with_reducible apply Vc.br_nl
  | with_reducible apply Vc.br_nr
  | ((with_reducible apply Vc.br_dt); (first | with_reducible assumption | omega | (simp only [List.length_map, List.length_append, List.length_cons, List.length_nil]; omega)))
  | ((with_reducible apply Vc.br_df); (first | with_reducible assumption | omega | (simp only [List.length_map, List.length_append, List.length_cons, List.length_nil]; omega)))
  | ((with_reducible apply Vc.br_eqt); with_reducible assumption)
  | ((with_reducible apply Vc.br_eqf); with_reducible assumption))
local macro_rules | `(tactic| walk_at "vcGd") => `(tactic| first
  | with_reducible apply Vc.addN1
  | with_reducible apply Vc.add1N
  | with_reducible apply Vc.aNN
  | with_reducible apply Vc.addI
  | ((with_reducible apply Vc.addLm); omega)
  | ((with_reducible apply Vc.addL); (first | omega | (simp only [List.length_map, List.length_append, List.length_cons, List.length_nil]; omega)))
  | ((with_reducible apply Vc.addT); (first | omega | (simp only [List.length_map, List.length_append, List.length_cons, List.length_nil]; omega)))
  | with_reducible apply Vc.subN1
  | with_reducible apply Vc.subI
  | with_reducible apply Vc.negI
  | with_reducible apply Vc.gtI'
  | with_reducible apply Vc.leI'
  | with_reducible apply Vc.geI'
  | with_reducible apply Vc.notB
  | with_reducible apply Vc.isN'
  | with_reducible apply Vc.isnN'
  | with_reducible apply Vc.intI
  | with_reducible apply Vc.intB
  | with_reducible apply Vc.maxI
  | with_reducible apply Vc.minI
  | with_reducible apply Vc.sl1T)
local macro_rules | `(tactic| walk_at "vcGs") => `(tactic| first
  | with_reducible apply Vc.itT
  | with_reducible apply Vc.itL
  | with_reducible apply Vc.itK
  | ((with_reducible apply Vc.itR); walk_at "cell")
  | ((with_reducible apply Vc.rngN); omega)
  | ((with_reducible apply Vc.rngP); omega)
  | with_reducible apply Vc.lsL
  | ((with_reducible apply Vc.lsR); walk_at "cell")
  | ((with_reducible apply Vc.revN); omega))
local macro_rules | `(tactic| walk_at "vcGl") => `(tactic| first
  | ((with_reducible apply Vc.rgN); omega)
  | with_reducible apply Vc.seqL
  | with_reducible apply Vc.seqT
  | ((with_reducible apply Vc.seqR); walk_at "cell"))
local macro_rules | `(tactic| walk_at "vcGm") => `(tactic| first
  | ((with_reducible apply Vc.stL); walk_at "cell"; (first | omega | exact Nat.le_of_ble_eq_true rfl | (simp only [List.length_map, List.length_append, List.length_cons, List.length_nil]; omega) | skip))
  | ((with_reducible apply Vc.sFn); walk_at "cell"; decide +kernel; exact Nat.le_of_ble_eq_true rfl; exact rfl)
  | ((with_reducible apply Vc.sFo 0); walk_at "cell"; decide +kernel; exact Nat.le_of_ble_eq_true rfl; exact rfl)
  | ((with_reducible apply Vc.sFo 1); walk_at "cell"; decide +kernel; exact Nat.le_of_ble_eq_true rfl; exact rfl)
  | ((with_reducible apply Vc.sFo 2); walk_at "cell"; decide +kernel; exact Nat.le_of_ble_eq_true rfl; exact rfl)
  | ((with_reducible apply Vc.sFo 3); walk_at "cell"; decide +kernel; exact Nat.le_of_ble_eq_true rfl; exact rfl)
  | ((with_reducible apply Vc.sFo 4); walk_at "cell"; decide +kernel; exact Nat.le_of_ble_eq_true rfl; exact rfl)
  | ((with_reducible apply Vc.kStI); walk_at "cell"; (first | omega | exact Nat.le_of_ble_eq_true rfl | (simp only [List.length_map, List.length_append, List.length_cons, List.length_nil]; omega) | skip)))
local macro_rules | `(tactic| walk_at "vc2") => `(tactic| first
  | with_reducible apply Vc.p2
  | with_reducible apply Vc.ltI
  | with_reducible apply Vc.ixT0
  | with_reducible apply Vc.ixT1
  | with_reducible apply Vc.ixT2
  | with_reducible apply Vc.ixT3
  | with_reducible apply Vc.ixL0
  | with_reducible apply Vc.ixL1
  | with_reducible apply Vc.ixL2
  | ((with_reducible apply Vc.ixL); (first | with_reducible assumption | (with_reducible apply Vc.mapG; with_reducible assumption)))
  | ((with_reducible apply Vc.ixT); (first | with_reducible assumption | (with_reducible apply Vc.mapG; with_reducible assumption)))
  | ((with_reducible apply Vc.ixR); walk_at "cell"; (first | with_reducible assumption | (with_reducible apply Vc.mapG; with_reducible assumption)))
  | with_reducible apply Vc.eqI
  | with_reducible apply Vc.neI
  | ((with_reducible apply Vc.eqW); walk_at "eq")
  | ((with_reducible apply Vc.neW); walk_at "eq")
  | ((with_reducible apply Vc.inW); walk_at "in")
  | ((with_reducible apply Vc.niW); walk_at "in")
  | ((with_reducible apply Vc.Wp.of); with_reducible assumption))
local macro_rules | `(tactic| walk_at "vcF") => `(tactic| first
  | with_reducible apply Vc.lenLm
  | with_reducible apply Vc.lenTm
  | with_reducible apply Vc.lenL
  | with_reducible apply Vc.lenT
  | with_reducible apply Vc.lenK
  | ((with_reducible apply Vc.lenR); walk_at "cell")
  | with_reducible apply Vc.pF
  | ((with_reducible apply Vc.isiTr); exact rfl)
  | ((with_reducible apply Vc.isiFa); exact rfl)
  | with_reducible apply Vc.tupleL
  | with_reducible apply Vc.tupleT
  | with_reducible apply Vc.listAL
  | with_reducible apply Vc.listAT
  | with_reducible apply Vc.listBL
  | with_reducible apply Vc.listBT
  | with_reducible apply Vc.allW
  | ((with_reducible apply Vc.Wp.of); with_reducible assumption))
local macro_rules | `(tactic| walk_at "vcM") => `(tactic| first
  | ((with_reducible apply Vc.app); walk_at "cell"; (first | omega | exact Nat.le_of_ble_eq_true rfl | (simp only [List.length_map, List.length_append, List.length_cons, List.length_nil]; omega) | skip))
  | ((with_reducible apply Vc.extL); walk_at "cell"; (first | omega | exact Nat.le_of_ble_eq_true rfl | (simp only [List.length_map, List.length_append, List.length_cons, List.length_nil]; omega) | skip))
  | ((with_reducible apply Vc.pop); walk_at "cell")
  | ((with_reducible apply Vc.kGet1I); walk_at "cell")
  | with_reducible apply Vc.kGet1DI
  | ((with_reducible apply Vc.Wp.of); with_reducible assumption))
local macro_rules | `(tactic| walk_at "vc1") => `(tactic| first
  | ((with_reducible apply Vc.gS); walk_at "vcS")
  | ((with_reducible apply Vc.gE); walk_at "vcE")
  | ((with_reducible apply Vc.gT); walk_at "vcT")
  | ((with_reducible apply Vc.gA); walk_at "vcA")
  | ((with_reducible apply Vc.gI); walk_at "vcI")
  | ((with_reducible apply Vc.gG); walk_at "vcG")
  | ((with_reducible apply Vc.gO); walk_at "vcO")
  | ((with_reducible apply Vc.gB); walk_at "vcB")
  | ((with_reducible apply Vc.gGd); walk_at "vcGd")
  | ((with_reducible apply Vc.gGs); walk_at "vcGs")
  | ((with_reducible apply Vc.gGl); walk_at "vcGl")
  | ((with_reducible apply Vc.gGm); walk_at "vcGm")
  | ((with_reducible apply Vc.g2); walk_at "vc2")
  | ((with_reducible apply Vc.gFn); walk_at "vcF")
  | ((with_reducible apply Vc.gMt); walk_at "vcM")
  | walk_at "vcK"
  | with_reducible apply Vc.isB
  | with_reducible apply Vc.tru_b
  | with_reducible apply Vc.tru_n
  | with_reducible apply Vc.tru_i
  | with_reducible apply Vc.tru_l
  | with_reducible apply Vc.tru_t
  | ((with_reducible apply Vc.tru_r); walk_at "cell")
  | ((with_reducible apply And.intro); exact Nat.le_of_ble_eq_true rfl)
  | ((with_reducible apply Vc.frzR); walk_at "cell")
  | ((with_reducible apply Vc.objR); walk_at "cell")
  | ((with_reducible apply And.intro); with_reducible apply Vc.isL_r; walk_at "cell")
  | ((with_reducible apply And.intro); with_reducible apply Vc.isD_k; walk_at "cell")
  | ((with_reducible apply And.intro); (first | with_reducible exact Vc.isD_kd | with_reducible exact Vc.isD_d))
  | ((with_reducible apply Vc.objR); walk_at "cell")
  | with_reducible apply Vc.one
  | ((with_reducible apply Vc.gF 0); decide +kernel; exact rfl)
  | ((with_reducible apply Vc.gF 1); decide +kernel; exact rfl)
  | ((with_reducible apply Vc.gF 2); decide +kernel; exact rfl)
  | ((with_reducible apply Vc.gF 3); decide +kernel; exact rfl)
  | ((with_reducible apply Vc.gF 4); decide +kernel; exact rfl)
  | ((with_reducible apply Vc.gF 5); decide +kernel; exact rfl)
  | ((with_reducible apply Vc.gF 6); decide +kernel; exact rfl)
  | ((with_reducible apply And.intro); (refine (?_ : _ = true)); decide +kernel)
  | with_reducible apply Vc.isInt
  | with_reducible apply Vc.cL'
  | with_reducible apply Vc.t1
  | ((with_reducible apply Vc.Wp.of); with_reducible assumption))
namespace Sh
open PySem PySem.Spec PyProof.Rows L2 DL Ev Vc
/-! ### defs that several laws have (printed by gen.py) -/
noncomputable def m_in_order : SM :=
    (rtS (sortE (F_rank 4) (varE 0)))
noncomputable def F_in_order : FM := cutF (body 1 (m_in_order))
noncomputable def m_Ways_add (C_Ways : Addr) : SM :=
    (seqS (ifS (blT (opE inD (varE 1) (fldE C_Ways "_edges" (varE 0)))) (rtS (cE (.bl false))) nxS)
    (seqS (asgS (cE (.bl true)) (subG (fldE C_Ways "_edges" (varE 0)) (varE 1)))
    (seqS (asgS (varE 1) (tupG 3 (consG (nameG 2) (consG (nameG 3) (consG (nameG 4) nilG)))))
    (seqS (exS (mtE isL appG (mtE isD sdG (fldE C_Ways "_to" (varE 0)) (consA (tupE (consA (varE 2) (consA (varE 3) nilA))) (consA (lstC nilA) nilA))) (consA (varE 4) nilA)))
    (rtS (cE (.bl true)))))))
noncomputable def F_Ways_add (C_Ways : Addr) : FM := (body 5 (m_Ways_add C_Ways))
noncomputable def m_Ways_init (C_Ways : Addr) : SM :=
    (seqS (fldS C_Ways "_edges" (varE 0) newDict)
    (seqS (fldS C_Ways "_to" (varE 0) newDict)
    (forS (seqI (varE 1)) (nameG 2) (exS (methE C_Ways "add" (F_Ways_add C_Ways) (varE 0) (consA (varE 2) nilA))))))
noncomputable def F_Ways_init (C_Ways : Addr) : FM := (body 3 (m_Ways_init C_Ways))
noncomputable def m_Ways_edges (C_Ways : Addr) : SM :=
    (rtS (callE tupleF (consA (callE F_in_order (consA (callE listA (consA (fldE C_Ways "_edges" (varE 0)) nilA)) nilA)) nilA)))
noncomputable def F_Ways_edges (C_Ways : Addr) : FM := cutF (body 1 (m_Ways_edges C_Ways))
noncomputable def m_Ways_after (C_Ways : Addr) : SM :=
    (seqS (setS 3 newDict)
    (seqS (forS (seqI (varE 1)) (nameG 4) (forS (seqI (mtE isD getG (fldE C_Ways "_to" (varE 0)) (consA (tupE (consA (varE 4) (consA (varE 2) nilA))) (consA (lstE nilA) nilA)))) (nameG 5) (asgS (cE (.bl true)) (subG (varE 3) (varE 5)))))
    (rtS (callE listA (consA (varE 3) nilA)))))
noncomputable def F_Ways_after (C_Ways : Addr) : FM := cutF (body 6 (m_Ways_after C_Ways))
noncomputable def m_Ways_freely (C_Ways : Addr) : SM :=
    (seqS (setS 2 (dgE (seqI (varE 1)) (.one 5) yesT (varE 5) (cE (.bl true)) [5]))
    (seqS (setS 3 (callE listB (consA (varE 1) nilA)))
    (seqS (whS (truT (varE 3)) (forS (seqI (methE C_Ways "after" (F_Ways_after C_Ways) (varE 0) (consA (lstE (consA (mtE isL popG (varE 3) nilA) nilA)) (consA (cE .non) nilA)))) (nameG 4) (ifS (blT (opE notInD (varE 4) (varE 2))) (seqS (asgS (cE (.bl true)) (subG (varE 2) (varE 4)))
    (exS (mtE isL appG (varE 3) (consA (varE 4) nilA)))) nxS)))
    (rtS (callE listA (consA (varE 2) nilA))))))
noncomputable def F_Ways_freely (C_Ways : Addr) : FM := cutF (body 6 (m_Ways_freely C_Ways))
noncomputable def m_Ways_along (C_Ways : Addr) : SM :=
    (seqS (forS (seqI (varE 2)) (nameG 3) (setS 1 (methE C_Ways "after" (F_Ways_after C_Ways) (varE 0) (consA (methE C_Ways "freely" (F_Ways_freely C_Ways) (varE 0) (consA (varE 1) nilA)) (consA (varE 3) nilA)))))
    (rtS (varE 1)))
noncomputable def F_Ways_along (C_Ways : Addr) : FM := cutF (body 4 (m_Ways_along C_Ways))
noncomputable def m_accepts (C_Ways : Addr) : SM :=
    (seqS (asgS (varE 0) (tupG 2 (consG (nameG 2) (consG (nameG 3) nilG))))
    (seqS (asgS (varE 1) (tupG 2 (consG (nameG 4) (consG (nameG 5) nilG))))
    (seqS (setS 6 (makeE C_Ways (F_Ways_init C_Ways) (consA (varE 2) nilA)))
    (rtS (callE anyF (consA (lcE (seqI (methE C_Ways "freely" (F_Ways_freely C_Ways) (varE 6) (consA (methE C_Ways "along" (F_Ways_along C_Ways) (varE 6) (consA (lstE (consA (varE 4) nilA)) (consA (varE 5) nilA))) nilA))) (.one 7) yesT (opE inD (varE 7) (varE 3)) [7]) nilA))))))
noncomputable def F_accepts (C_Ways : Addr) : FM := cutF (body 8 (m_accepts C_Ways))
noncomputable def m_backward_edges (C_Ways : Addr) : SM :=
    (seqS (setS 2 (lstC nilA))
    (seqS (forS (seqI (varE 0)) (tupG 5 (consG (nameG 3) (consG (nameG 4) (consG (nameG 5) (consG (nameG 6) (consG (nameG 7) nilG)))))) (exS (mtE isL extG (varE 2) (consA (lcE (seqI (methE C_Ways "along" (F_Ways_along C_Ways) (varE 1) (consA (lstE (consA (varE 5) nilA)) (consA (varE 6) nilA)))) (.one 8) yesT (tupE (consA (varE 3) (consA (varE 4) (consA (varE 8) nilA)))) [8]) nilA))))
    (rtS (frzE (varE 2)))))
noncomputable def F_backward_edges (C_Ways : Addr) : FM := cutF (body 9 (m_backward_edges C_Ways))
noncomputable def m_each_once : SM :=
    (rtS (callE tupleF (consA (callE F_in_order (consA (callE listA (consA (dgE (seqI (varE 0)) (.one 1) yesT (varE 1) (cE (.bl true)) [1]) nilA)) nilA)) nilA)))
noncomputable def F_each_once : FM := cutF (body 2 (m_each_once))
noncomputable def m_takes_backwards (C_Ways : Addr) : SM :=
    (seqS (asgS (varE 1) (tupG 2 (consG (nameG 2) (consG (nameG 3) nilG))))
    (rtS (callE allF (consA (lcE (seqI (callE (F_backward_edges C_Ways) (consA (varE 0) (consA (makeE C_Ways (F_Ways_init C_Ways) (consA (varE 2) nilA)) nilA)))) (.one 4) yesT (opE inD (varE 4) (varE 2)) [4]) nilA))))
noncomputable def F_takes_backwards (C_Ways : Addr) : FM := cutF (body 5 (m_takes_backwards C_Ways))
/-! ### keys that are told once -/
def insK (ts : List NestedKey) (t : NestedKey) : List NestedKey := if t ∈ ts then ts else ts ++ [t]
def dk (ts : List NestedKey) : KD := ts.map fun t => (t, .bl true)
theorem dk_get (t : NestedKey) : ∀ ts : List NestedKey, kget (dk ts) t = if t ∈ ts then some (.bl true) else none
  | [] => rfl
  | k :: ts => by
    show kget ((k, .bl true) :: dk ts) t = _
    rw [kget, dk_get t ts]
    by_cases h : k = t
    · rw [if_pos h, if_pos (by rw [h]; exact List.mem_cons_self)]
    · rw [if_neg h]
      by_cases h2 : t ∈ ts
      · rw [if_pos h2, if_pos (List.mem_cons_of_mem _ h2)]
      · rw [if_neg h2, if_neg]
        intro z
        rcases List.mem_cons.mp z with z | z
        · exact h z.symm
        · exact h2 z
theorem dk_put (t : NestedKey) : ∀ ts : List NestedKey, kput (dk ts) t (.bl true) = dk (insK ts t)
  | [] => rfl
  | k :: ts => by
    show kput ((k, .bl true) :: dk ts) t _ = _
    rw [kput]
    by_cases h : k = t
    · rw [if_pos h]
      unfold insK
      rw [if_pos (by rw [h]; exact List.mem_cons_self)]
      rfl
    · rw [if_neg h, dk_put t ts]
      unfold insK
      by_cases h2 : t ∈ ts
      · rw [if_pos h2, if_pos (List.mem_cons_of_mem _ h2)]; rfl
      · rw [if_neg h2, if_neg]
        · rfl
        · intro z
          rcases List.mem_cons.mp z with z | z
          · exact h z.symm
          · exact h2 z
theorem dk_some {t : NestedKey} {ts : List NestedKey} : (kget (dk ts) t).isSome = decide (t ∈ ts) := by
  rw [dk_get]
  by_cases h : t ∈ ts
  · rw [if_pos h, decide_eq_true h]; rfl
  · rw [if_neg h, decide_eq_false h]; rfl
theorem dk_keys (ts : List NestedKey) : kks (dk ts) = ts.map toD := by
  unfold kks dk
  rw [List.map_map]; rfl
theorem dk_len (ts : List NestedKey) : (dk ts).length = ts.length := List.length_map _
theorem cl_dk (n : Nat) (ts : List NestedKey) : DL.Cl n (kdD (dk ts)) := cl_kd fun p hp => by
  obtain ⟨t, _, rfl⟩ := List.mem_map.mp hp
  simp [DL.Cl]
theorem mem_insK {ts : List NestedKey} {t x : NestedKey} : x ∈ insK ts t ↔ x ∈ ts ∨ x = t := by
  unfold insK
  by_cases h : t ∈ ts
  · rw [if_pos h]
    constructor
    · exact .inl
    · rintro (h' | rfl)
      · exact h'
      · exact h
  · rw [if_neg h, List.mem_append, List.mem_singleton]
theorem insK_nodup {ts : List NestedKey} {t : NestedKey} (h : ts.Nodup) : (insK ts t).Nodup := by
  unfold insK
  by_cases h2 : t ∈ ts
  · rw [if_pos h2]; exact h
  · rw [if_neg h2, List.nodup_append]
    refine ⟨h, by simp, fun x hx y hy => ?_⟩
    rw [List.mem_singleton.mp hy]
    exact fun e => h2 (e ▸ hx)
theorem insK_len (ts : List NestedKey) (t : NestedKey) : (insK ts t).length ≤ ts.length + 1 := by
  unfold insK
  split
  · omega
  · simp
def once (l : List NestedKey) : List NestedKey := l.foldl insK []
theorem fold_mem {x : NestedKey} : ∀ (l ts : List NestedKey), x ∈ l.foldl insK ts ↔ x ∈ ts ∨ x ∈ l
  | [], ts => by simp
  | t :: l, ts => by
    rw [List.foldl_cons, fold_mem l, mem_insK, List.mem_cons, or_assoc]
theorem fold_nodup : ∀ (l ts : List NestedKey), ts.Nodup → (l.foldl insK ts).Nodup
  | [], _, h => h
  | t :: l, ts, h => fold_nodup l _ (insK_nodup h)
theorem fold_len : ∀ (l ts : List NestedKey), (l.foldl insK ts).length ≤ ts.length + l.length
  | [], ts => Nat.le_refl _
  | t :: l, ts => by
    have := fold_len l (insK ts t)
    have := insK_len ts t
    rw [List.foldl_cons, List.length_cons]
    omega
theorem once_mem {l : List NestedKey} {x : NestedKey} : x ∈ once l ↔ x ∈ l := by rw [once, fold_mem]; simp
theorem once_nodup (l : List NestedKey) : (once l).Nodup := fold_nodup l [] List.nodup_nil
theorem once_snoc (l : List NestedKey) (t : NestedKey) : once (l ++ [t]) = insK (once l) t := by unfold once; rw [List.foldl_append]; rfl
theorem once_len (l : List NestedKey) : (once l).length ≤ l.length := by have := fold_len l []; simpa [once] using this
theorem once_of_nodup {l : List NestedKey} (h : l.Nodup) : once l = l := by
  have main : ∀ (l ts : List NestedKey), (ts ++ l).Nodup → l.foldl insK ts = ts ++ l := by
    intro l
    induction l with
    | nil => intro ts _; simp
    | cons t l ih =>
      intro ts h
      rw [List.foldl_cons]
      have hn : t ∉ ts := fun z => by
        rw [List.nodup_append] at h
        exact h.2.2 t z t List.mem_cons_self rfl
      rw [insK, if_neg hn, ih _ (by rw [List.append_assoc]; exact h), List.append_assoc]
      rfl
  have := main l [] (by simpa using h)
  simpa [once] using this
theorem len_le {α : Type} [DecidableEq α] : ∀ {l m : List α}, l.Nodup → (∀ x ∈ l, x ∈ m) → l.length ≤ m.length
  | [], m, _, _ => Nat.zero_le _
  | x :: l, m, h, hs => by
    rw [List.nodup_cons] at h
    have h1 := len_le (l := l) (m := m.erase x) h.2 fun y hy => (List.mem_erase_of_ne (fun e : y = x => by subst e; exact h.1 hy)).mpr (hs y (List.mem_cons_of_mem _ hy))
    rw [List.length_erase_of_mem (hs x List.mem_cons_self)] at h1
    have := List.length_pos_of_mem (hs x List.mem_cons_self)
    rw [List.length_cons]
    omega
/-! ### machines over stacks -/
abbrev Ed := NestedKey × NestedKey × NestedKey
def edK (e : Ed) : NestedKey := .tup [e.1, e.2.1, e.2.2]
theorem edK_inj {a b : Ed} (h : edK a = edK b) : a = b := by
  unfold edK at h
  injection h with h
  injection h with h1 h
  injection h with h2 h
  injection h with h3
  exact Prod.ext h1 (Prod.ext h2 h3)
def tg (E : List Ed) (n s : NestedKey) : List NestedKey := (E.filter fun e => decide (e.1 = n ∧ e.2.1 = s)).map fun e => e.2.2
theorem mem_tg {E : List Ed} {n s t : NestedKey} : t ∈ tg E n s ↔ (n, s, t) ∈ E := by
  unfold tg
  constructor
  · intro h
    obtain ⟨⟨a, b, c⟩, h1, rfl⟩ := List.mem_map.mp h
    obtain ⟨h2, h3⟩ := List.mem_filter.mp h1
    obtain ⟨rfl, rfl⟩ := of_decide_eq_true h3
    exact h2
  · intro h
    exact List.mem_map.mpr ⟨(n, s, t), List.mem_filter.mpr ⟨h, decide_eq_true ⟨rfl, rfl⟩⟩, rfl⟩
theorem tg_snoc (E : List Ed) (e : Ed) (n s : NestedKey) : tg (E ++ [e]) n s = if e.1 = n ∧ e.2.1 = s then tg E n s ++ [e.2.2] else tg E n s := by
  unfold tg
  by_cases h : e.1 = n ∧ e.2.1 = s
  · rw [if_pos h, List.filter_append]; simp [h]
  · rw [if_neg h, List.filter_append]; simp [h]
theorem tg_len (E : List Ed) (n s : NestedKey) : (tg E n s).length ≤ E.length := by
  unfold tg
  rw [List.length_map]
  exact List.length_filter_le _ _
inductive FreeR (E : List Ed) : NestedKey → NestedKey → Prop
  | refl (n : NestedKey) : FreeR E n n
  | step {a b c : NestedKey} : FreeR E a b → (b, .none, c) ∈ E → FreeR E a c
inductive AlongR (E : List Ed) : NestedKey → List NestedKey → NestedKey → Prop
  | nil (n : NestedKey) : AlongR E n [] n
  | cons {a b c d s : NestedKey} {w : List NestedKey} : FreeR E a b → (b, s, c) ∈ E → AlongR E c w d → AlongR E a (s :: w) d
def AccR (E : List Ed) (F : List NestedKey) (p : NestedKey) (w : List NestedKey) : Prop := ∃ a b, AlongR E p w a ∧ FreeR E a b ∧ b ∈ F
/-- nodes and symbols -/
structure Uni where
  U : List NestedKey
  S : List NestedKey
structure Uni.Ok (N : Uni) : Prop where
  ul : N.U.length ≤ 30
  sl : N.S.length ≤ 30
  un : ∀ n ∈ N.U, Kz n ∧ n.depth ≤ 1
  sn : ∀ s ∈ N.S, Kz s ∧ s.depth = 0
structure EdIn (N : Uni) (E : List Ed) : Prop where
  mem : ∀ e ∈ E, e.1 ∈ N.U ∧ e.2.1 ∈ N.S ∧ e.2.2 ∈ N.U
theorem free_in {N : Uni} {E : List Ed} (h : EdIn N E) {a b : NestedKey} (ha : a ∈ N.U) (hf : FreeR E a b) : b ∈ N.U := by
  induction hf with
  | refl => exact ha
  | step _ he _ => exact (h.mem _ he).2.2
theorem along_in {N : Uni} {E : List Ed} (h : EdIn N E) {a b : NestedKey} {w : List NestedKey} (ha : a ∈ N.U) (hf : AlongR E a w b) : b ∈ N.U := by
  induction hf with
  | nil => exact ha
  | cons _ he _ ih => exact ih (h.mem _ he).2.2
theorem FreeR.mono {E E' : List Ed} (h : ∀ e ∈ E, e ∈ E') {a b : NestedKey} (hf : FreeR E a b) : FreeR E' a b := by
  induction hf with
  | refl => exact .refl _
  | step _ he ih => exact .step ih (h _ he)
theorem AlongR.mono {E E' : List Ed} (h : ∀ e ∈ E, e ∈ E') {a b : NestedKey} {w : List NestedKey} (hf : AlongR E a w b) : AlongR E' a w b := by
  induction hf with
  | nil => exact .nil _
  | cons h1 he _ ih => exact .cons (h1.mono h) (h _ he) ih
theorem AlongR.app {E : List Ed} {a b : NestedKey} {v w : List NestedKey} (h : AlongR E a (v ++ w) b) : ∃ c, AlongR E a v c ∧ AlongR E c w b := by
  induction v generalizing a with
  | nil => exact ⟨a, .nil _, h⟩
  | cons s v ih =>
    cases h with
    | cons h1 h2 h3 =>
      obtain ⟨c, h4, h5⟩ := ih h3
      exact ⟨c, .cons h1 h2 h4, h5⟩
end Sh
/-! The data layer, part x: what the ways of a machine do. -/
namespace Sh
open PySem PySem.Spec PyProof.Rows L2 DL Ev Vc
def edD (E : List Ed) : KD := E.map fun e => (edK e, .bl true)
/-- the targets by node and symbol -/
structure ToOk (M : Mem) (E : List Ed) (T : KD) : Prop where
  no : ∀ n s, kget T (.tup [n, s]) = none → tg E n s = []
  so : ∀ n s v, kget T (.tup [n, s]) = some v → ∃ c, v = .ref c ∧ M[c]? = some (some (.lst ((tg E n s).map toD)))
  ks : ∀ k v, kget T k = some v → ∃ n s, k = .tup [n, s]
  inj : ∀ k1 k2 c, kget T k1 = some (.ref c) → kget T k2 = some (.ref c) → k1 = k2
  len : T.length ≤ E.length
/-- ways: its object in cell o, its edges in a, its targets in b -/
structure WaysAt (C : Addr) (E : List Ed) (o a b : Nat) (M : Mem) : Prop where
  ob : M[o]? = some (some (.obj C ["_edges", "_to"] [.ref a, .ref b]))
  ed : M[a]? = some (some (kdD (edD E)))
  ne : a ≠ b
  to : ∃ T, M[b]? = some (some (kdD T)) ∧ ToOk M E T
theorem WaysAt.pfx {C : Addr} {E : List Ed} {o a b : Nat} {M M' : Mem} (h : WaysAt C E o a b M) (p : Pfx M M') : WaysAt C E o a b M' := by
  obtain ⟨T, h1, h2⟩ := h.to
  refine ⟨p.get h.ob, p.get h.ed, h.ne, T, p.get h1, h2.no, fun n s v hv => ?_, h2.ks, h2.inj, h2.len⟩
  obtain ⟨c, e, g⟩ := h2.so n s v hv
  exact ⟨c, e, p.get g⟩
theorem listAK {M : Mem} {i : Nat} {D : KD} {Q : Dt → Mem → Prop} (g : M[i]? = some (some (kdD D))) (h : Q (.lst (kks D)) M) : Wp (listA [.ref i] M) Q := .of (by simp only [listA, allAt, dictAt_r g, Option.map_some, pur_some]) h
theorem cls_toD (n : Nat) (l : List NestedKey) : DL.Cl n (.lst (l.map toD)) := by simp only [DL.Cl]; rw [← toDs_map]; exact cls_toDs _ _
theorem cl_tupD (n : Nat) (l : List NestedKey) : DL.Cl n (.tup (l.map toD)) := by simp only [DL.Cl]; rw [← toDs_map]; exact cls_toDs _ _
theorem nsk_dep {n s : NestedKey} (hn : n.depth ≤ 1) (hs : s.depth = 0) : (NestedKey.tup [n, s]).depth ≤ 8 := by
  simp only [NestedKey.depth, NestedKey.depthAll]
  omega
/-- the nodes after some nodes and a symbol -/
theorem after_ok {C : Addr} {E : List Ed} {o a b : Nat} {M : Mem} {N : Uni} (hN : N.Ok) (hE : EdIn N E) (hl : E.length ≤ 1000) (h : WaysAt C E o a b M) {ns : List NestedKey} (hns : ∀ n ∈ ns, n ∈ N.U) (hnl : ns.length ≤ 90) {s : NestedKey} (hs : s ∈ N.S) :
    ∃ r : List NestedKey, F_Ways_after C [.ref o, .lst (ns.map toD), toD s] M = some (.lst (r.map toD), M) ∧ r.Nodup ∧ (∀ t ∈ r, t ∈ N.U) ∧ ∀ t, t ∈ r ↔ ∃ n ∈ ns, (n, s, t) ∈ E := by
  let R : List NestedKey := ns.flatMap fun n => tg E n s
  have hmem : ∀ t, t ∈ once R ↔ ∃ n ∈ ns, (n, s, t) ∈ E := fun t => by
    rw [once_mem, List.mem_flatMap]
    constructor
    · rintro ⟨n, hn, h⟩; exact ⟨n, hn, mem_tg.mp h⟩
    · rintro ⟨n, hn, h⟩; exact ⟨n, hn, mem_tg.mpr h⟩
  have hU : ∀ l : List NestedKey, (∀ t ∈ l, ∃ n ∈ ns, (n, s, t) ∈ E) → ∀ t ∈ once l, t ∈ N.U := fun l hl t ht => by
    obtain ⟨n, _, h⟩ := hl t (once_mem.mp ht)
    exact (hE.mem _ h).2.2
  refine ⟨once R, ?_, once_nodup R, hU R fun t ht => (hmem t).mp (once_mem.mpr ht), hmem⟩
  refine Vc.pureFn (fun n => cls_toD n _) ?_
  show WS (m_Ways_after C [some (.ref o), some (.lst (ns.map toD)), some (toD s), none, none, none] M) _
  have g1 := h.ob
  obtain ⟨T, g2, hT⟩ := h.to
  unfold m_Ways_after
  walk_at "vc"
  refine Vc.loop (f := toD) (xs := ns) (fun pre e M1 => (∃ e4 e5, e = [some (.ref o), some (.lst (ns.map toD)), some (toD s), some (.ref M.length), e4, e5]) ∧ Pfx M M1 ∧ M1[M.length]? = some (some (kdD (dk (once (pre.flatMap fun n => tg E n s)))))) ?_ ?_ ?_
  · exact ⟨⟨_, _, rfl⟩, Pfx.refl.app, getL⟩
  · rintro pre n post e M1 hx ⟨⟨e4, e5, rfl⟩, hp, g3⟩
    have hn : n ∈ ns := by rw [hx]; simp
    have hnd := (hN.un n (hns n hn)).2
    have hsd := (hN.sn s hs).2
    have g1' := hp.get g1
    have g2' := hp.get g2
    refine ⟨trivial, ?_⟩
    walk_at "vc"
    -- the two ways of a list of targets
    have inner : ∀ (src : Src), src.its = (tg E n s).map toD → (∀ M2, Pfx M M2 → src.gd M2) → WS (loopS src.gd (nameG 5) (asgS (cE (.bl true)) (subG (varE 3) (varE 5))) src.its [some (.ref o), some (.lst (ns.map toD)), some (toD s), some (.ref M.length), some (toD n), e5] M1) (LoopEnd (fun f e1 M1 => SK f e1 M1 (rtS (callE listA (consA (varE 3) nilA))) fun f x M' => f = .rt (.lst ((once R).map toD)) ∧ ∃ t, M' = M ++ t) fun e M1 =>
        (∃ e4 e5, e = [some (.ref o), some (.lst (ns.map toD)), some (toD s), some (.ref M.length), e4, e5]) ∧ Pfx M M1 ∧ M1[M.length]? = some (some (kdD (dk (once ((pre ++ [n]).flatMap fun n => tg E n s)))))) := by
      intro src hits hgd
      rw [hits]
      refine Vc.loop (f := toD) (xs := tg E n s) (fun pr e M2 => (∃ e5, e = [some (.ref o), some (.lst (ns.map toD)), some (toD s), some (.ref M.length), some (toD n), e5]) ∧ Pfx M M2 ∧ M2[M.length]? = some (some (kdD (dk (once ((pre.flatMap fun n => tg E n s) ++ pr)))))) ?_ ?_ ?_
      · exact ⟨⟨_, rfl⟩, hp, by rw [List.append_nil]; exact g3⟩
      · rintro pr t po e M2 hy ⟨⟨e5, rfl⟩, hp2, g4⟩
        have ht : (n, s, t) ∈ E := mem_tg.mp (by rw [hy]; simp)
        have htd := (hN.un t (hE.mem _ ht).2.2).2
        have hle := len_le (once_nodup ((pre.flatMap fun n => tg E n s) ++ pr)) (hU _ fun t ht => by
          rcases List.mem_append.mp ht with ht | ht
          · obtain ⟨m, hm, ht⟩ := List.mem_flatMap.mp ht
            exact ⟨m, by rw [hx]; exact List.mem_append_left _ hm, mem_tg.mp ht⟩
          · exact ⟨n, hn, mem_tg.mp (by rw [hy]; exact List.mem_append_left _ ht)⟩)
        have hul := hN.ul
        refine ⟨hgd _ hp2, ?_⟩
        walk_at "vc"
        refine Vc.kSt g4 (by omega) (by rw [dk_len]; omega) ?_
        walk_at "vc"
        refine ⟨⟨_, rfl⟩, hp2.set (Nat.le_refl _), ?_⟩
        rw [getS g4, dk_put, ← List.append_assoc, once_snoc]
      · rintro e M2 ⟨⟨e5, rfl⟩, hp2, g4⟩
        refine ⟨hgd _ hp2, ?_⟩
        walk_at "vc"
        refine ⟨⟨_, _, rfl⟩, hp2, ?_⟩
        rw [g4, List.flatMap_append]
        simp
    refine Vc.kGet2 (k := .tup [n, s]) g2' (nsk_dep hnd hsd) ?_
    cases hk : kget T (.tup [n, s]) with
    | none =>
      have e0 := hT.no n s hk
      exact Vc.itL (inner ⟨[], fun _ => True⟩ (by rw [e0]; rfl) fun _ _ => trivial)
    | some v =>
      obtain ⟨c, rfl, gc⟩ := hT.so n s v hk
      have gc' := hp.get gc
      exact Vc.itR gc' (inner ⟨(tg E n s).map toD, fun M => M[c]? = some (some (.lst ((tg E n s).map toD)))⟩ rfl fun M2 hp2 => hp2.get gc)
  · rintro e M1 ⟨⟨e4, e5, rfl⟩, hp, g3⟩
    refine ⟨trivial, ?_⟩
    walk_at "vc"
    refine listAK g3 ?_
    walk_at "vc"
    exact ⟨by rw [dk_keys], hp⟩
/-- a def without changes that gives some value -/
theorem pureEx {s : SM} {ds : List Dt} {n : Nat} {M : Mem} {P : Dt → Prop} (h : WS (s (ds.map some ++ List.replicate (n - ds.length) none) M) fun f _ M' => ∃ d, f = .rt d ∧ P d ∧ DL.Cl M.length d ∧ Pfx M M') : ∃ d, cutF (body n s) ds M = some (d, M) ∧ P d := by
  have : Wp (cutF (body n s) ds M) fun d M' => M' = M ∧ P d := Vc.cut0 (Vc.body' (h.mono fun f e M' h => by
    obtain ⟨d, rfl, h1, h2, h3⟩ := h
    exact be_rt ⟨h2, h3, rfl, h1⟩))
  obtain ⟨d, M', h1, rfl, h2⟩ := this
  exact ⟨d, h1, h2⟩
theorem dg {it : IM} {t : Tgt} {c : TM} {ek ev : EM} {vs : List Nat} {e : Sl} {M : Mem} {Q : Dt → Mem → Prop} (h : Wp (it e M) fun src M1 => ∃ ks us M2, dgL src.gd t c ek ev (wipeS e vs) src.its [] [] M1 = some (ks, us, M2) ∧ Q (.ref M2.length) (M2 ++ [some (.dic ks us)])) : Wp (dgE it t c ek ev vs e M) Q := Vc.thn (h.mono fun src M1 h => by
  obtain ⟨ks, us, M2, h1, h2⟩ := h
  rw [h1]
  exact Vc.ret h2)
theorem dgK {it : IM} {t : Tgt} {c : TM} {ek ev : EM} {vs : List Nat} {e : Sl} {M : Mem} {Q : Dt → Mem → Prop} (h : Wp (it e M) fun src M1 => ∃ (D : KD) (M2 : Mem), dgL src.gd t c ek ev (wipeS e vs) src.its [] [] M1 = some (kks D, kvs D, M2) ∧ Q (.ref M2.length) (M2 ++ [some (kdD D)])) : Wp (dgE it t c ek ev vs e M) Q :=
  dg (h.mono fun src M1 h => by
    obtain ⟨D, M2, h1, h2⟩ := h
    exact ⟨_, _, M2, h1, h2⟩)
theorem dgDk {i : Nat} {e0 : Sl} {M : Mem} (hi : i < e0.length) : ∀ (ns ts : List NestedKey), (∀ n ∈ ns, n.depth ≤ 8) → ts.length + ns.length ≤ 1000 →
    dgL (fun _ => True) (.one i) yesT (varE i) (cE (.bl true)) e0 (ns.map toD) (kks (dk ts)) (kvs (dk ts)) M = some (kks (dk (ns.foldl insK ts)), kvs (dk (ns.foldl insK ts)), M)
  | [], ts, _, _ => by
    rw [List.map_nil]
    unfold dgL
    rw [if_pos trivial]
    rfl
  | n :: ns, ts, h, hz => by
    rw [List.length_cons] at hz
    have h1 := keyN_toD (h n List.mem_cons_self)
    have hv : varE i (e0.set i (some (toD n))) M = some (toD n, M) := v_var (List.getElem?_set_self hi)
    have hp := kput_put n (.bl true) (dk ts)
    rw [dk_put] at hp
    have hl : (kks (dk ts)).length < sizeLine := by unfold kks; rw [List.length_map, dk_len, sizeLine_eq]; omega
    rw [List.map_cons]
    unfold dgL
    rw [if_pos trivial]
    simp only [Tgt.m, yesT, thn1_some, if_true, hv, cE, h1]
    rw [if_pos hl, hp]
    have := insK_len ts n
    exact dgDk hi ns (insK ts n) (fun x hx => h x (List.mem_cons_of_mem _ hx)) (by omega)
/-- a search along free edges -/
structure FI (E : List Ed) (ns ts W : List NestedKey) : Prop where
  nd : ts.Nodup
  inc : ∀ n ∈ ns, n ∈ ts
  snd : ∀ t ∈ ts, ∃ n ∈ ns, FreeR E n t
  sub : ∀ t ∈ W, t ∈ ts
  clo : ∀ t ∈ ts, t ∉ W → ∀ c, (t, NestedKey.none, c) ∈ E → c ∈ ts
theorem FI.end {E : List Ed} {ns ts : List NestedKey} (h : FI E ns ts []) {t : NestedKey} : t ∈ ts ↔ ∃ n ∈ ns, FreeR E n t := by
  refine ⟨h.snd t, ?_⟩
  rintro ⟨n, hn, hf⟩
  induction hf with
  | refl => exact h.inc n hn
  | step _ he ih => exact h.clo _ ih (by simp) _ he
theorem freely_ok {C : Addr} {E : List Ed} {o a b : Nat} {M : Mem} {N : Uni} (hN : N.Ok) (hE : EdIn N E) (hl : E.length ≤ 1000) (h : WaysAt C E o a b M) (h0 : NestedKey.none ∈ N.S) {ns : List NestedKey} (hns : ∀ n ∈ ns, n ∈ N.U) (hnl : ns.length ≤ 900) :
    ∃ r : List NestedKey, F_Ways_freely C [.ref o, .lst (ns.map toD)] M = some (.lst (r.map toD), M) ∧ r.Nodup ∧ (∀ t ∈ r, t ∈ N.U) ∧ ∀ t, t ∈ r ↔ ∃ n ∈ ns, FreeR E n t := by
  have hul := hN.ul
  have inU : ∀ {ts : List NestedKey}, (∀ t ∈ ts, ∃ n ∈ ns, FreeR E n t) → ∀ t ∈ ts, t ∈ N.U := fun hs t ht => by
    obtain ⟨n, hn, hf⟩ := hs t ht
    exact free_in hE (hns n hn) hf
  have main : ∃ d, F_Ways_freely C [.ref o, .lst (ns.map toD)] M = some (d, M) ∧ ∃ r : List NestedKey, d = .lst (r.map toD) ∧ r.Nodup ∧ (∀ t ∈ r, t ∈ N.U) ∧ ∀ t, t ∈ r ↔ ∃ n ∈ ns, FreeR E n t := by
    refine pureEx ?_
    show WS (m_Ways_freely C [some (.ref o), some (.lst (ns.map toD)), none, none, none, none] M) _
    have g1 := h.ob
    unfold m_Ways_freely
    walk_at "vc"
    refine dg ?_
    walk_at "vc"
    refine ⟨_, _, _, dgDk (i := 5) (Nat.le_of_ble_eq_true rfl) ns [] (fun n hn => by have := (hN.un n (hns n hn)).2; omega) (by simp; omega), ?_⟩
    show SK Fl.nx _ (M ++ [some (kdD (dk (once ns)))]) _ _
    walk_at "vc"
    refine Vc.while' (fun k e M1 => k ≤ 960 ∧ ∃ ts W : List NestedKey, (∃ e4, e = [some (.ref o), some (.lst (ns.map toD)), some (.ref M.length), some (.ref (M.length + 1)), e4, none]) ∧ Pfx M M1 ∧ M1[M.length]? = some (some (kdD (dk ts))) ∧ M1[M.length + 1]? = some (some (.lst (W.map toD))) ∧ FI E ns ts W ∧ k = 2 * (30 - ts.length) + W.length) ?_ _ _ _
      ⟨by omega, once ns, ns, ⟨none, by simp⟩, Pfx.refl.app.app, getA getL, by have := (getL (M := M ++ [some (kdD (dk (once ns)))]) (c := some (Dt.lst (ns.map toD)))); simpa using this, ⟨once_nodup ns, fun n hn => once_mem.mpr hn, fun t ht => ⟨t, once_mem.mp ht, .refl t⟩, fun t ht => once_mem.mpr ht, fun t ht hw => absurd (once_mem.mp ht) hw⟩, rfl⟩
    rintro k e M1 ⟨hk, ts, W, ⟨e4, rfl⟩, hp, g2, g3, hf, rfl⟩
    have g1' := hp.get g1
    rcases List.eq_nil_or_concat W with rfl | ⟨W', x, rfl⟩
    · walk_at "vc"
      refine br_eqt rfl ?_
      walk_at "vc"
      refine listAK g2 ?_
      walk_at "vc"
      exact ⟨_, rfl, ⟨ts, by rw [dk_keys], hf.nd, inU hf.snd, fun t => hf.end⟩, by rw [dk_keys]; exact cls_toD _ _, hp⟩
    · rw [List.concat_eq_append] at *
      have g3' : M1[M.length + 1]? = some (some (.lst (W'.map toD ++ [toD x]))) := by rw [g3, List.map_append]; rfl
      have hx : x ∈ ts := hf.sub x (by simp)
      have hxU := inU hf.snd x hx
      have hp1 : Pfx M (M1.set (M.length + 1) (some (.lst (W'.map toD)))) := hp.set (by omega)
      obtain ⟨r, hr, hrn, hru, hrm⟩ := after_ok hN hE hl (h.pfx hp1) (ns := [x]) (by simpa using hxU) (by simp) h0
      have g1'' := hp1.get g1
      walk_at "vc"
      refine br_eqf (by simp) ?_
      walk_at "vc"
      refine .of hr ?_
      walk_at "vc"
      refine Vc.loop (f := toD) (xs := r) (fun pr e M2 => ∃ ts2 W2 : List NestedKey, (∃ e4, e = [some (.ref o), some (.lst (ns.map toD)), some (.ref M.length), some (.ref (M.length + 1)), e4, none]) ∧ Pfx M M2 ∧ M2[M.length]? = some (some (kdD (dk ts2))) ∧ M2[M.length + 1]? = some (some (.lst (W2.map toD))) ∧
        ts2.Nodup ∧ (∀ t ∈ ts, t ∈ ts2) ∧ (∀ t ∈ ts2, ∃ n ∈ ns, FreeR E n t) ∧ (∀ t ∈ W2, t ∈ ts2) ∧ (∀ t ∈ ts2, t ∉ W2 → t ≠ x → ∀ c, (t, NestedKey.none, c) ∈ E → c ∈ ts2) ∧ (∀ c ∈ pr, c ∈ ts2) ∧ 2 * (30 - ts2.length) + W2.length ≤ 2 * (30 - ts.length) + W'.length) ?_ ?_ ?_
      · refine ⟨ts, W', ⟨_, rfl⟩, hp1, getN (by omega) g2, getS g3, hf.nd, fun t ht => ht, hf.snd, fun t ht => hf.sub t (List.mem_append_left _ ht), fun t ht hw hx => hf.clo t ht fun z => ?_, by simp, Nat.le_refl _⟩
        rcases List.mem_append.mp z with z | z
        · exact hw z
        · exact hx (List.mem_singleton.mp z)
      · rintro pr t po e M2 hy ⟨ts2, W2, ⟨e4, rfl⟩, hp2, g4, g5, i1, i2, i3, i4, i5, i6, i7⟩
        have htr : t ∈ r := by rw [hy]; simp
        have htd := (hN.un t (hru t htr)).2
        have hle := len_le i1 (inU i3)
        rw [List.length_append, List.length_singleton] at hk
        have hwl : (W2.map toD).length ≤ 2000 := by rw [List.length_map]; omega
        refine ⟨trivial, ?_⟩
        walk_at "vc"
        refine Vc.kNi g4 (by omega) (Vc.isB ?_)
        rw [dk_some]
        refine Vc.br_n (br_d (fun hin => ?_) (fun hin => ?_))
        · walk_at "vc"
          refine ⟨ts2, W2, ⟨_, rfl⟩, hp2, g4, g5, i1, i2, i3, i4, i5, fun c hc => ?_, i7⟩
          rcases List.mem_append.mp hc with hc | hc
          · exact i6 c hc
          · rw [List.mem_singleton.mp hc]; exact hin
        · walk_at "vc"
          refine Vc.kSt g4 (by omega) (by rw [dk_len]; omega) ?_
          walk_at "vc"
          have e1 : insK ts2 t = ts2 ++ [t] := by rw [insK, if_neg hin]
          have hle2 := len_le (l := ts2 ++ [t]) (m := N.U) (by rw [← e1]; exact insK_nodup i1) (fun y hy => by
            rcases List.mem_append.mp hy with hy | hy
            · exact inU i3 y hy
            · rw [List.mem_singleton.mp hy]; exact hru t htr)
          rw [List.length_append, List.length_singleton] at hle2
          have hsnd : ∃ n ∈ ns, FreeR E n t := by
            obtain ⟨y, hy1, hy2⟩ := (hrm t).mp htr
            rw [List.mem_singleton.mp hy1] at hy2
            obtain ⟨n, hn, hfr⟩ := hf.snd x hx
            exact ⟨n, hn, .step hfr hy2⟩
          refine ⟨ts2 ++ [t], W2 ++ [t], ⟨_, rfl⟩, (hp2.set (Nat.le_refl _)).set (by omega), ?_, ?_, by rw [← e1]; exact insK_nodup i1, fun y hy => List.mem_append_left _ (i2 y hy), ?_, ?_, ?_, ?_, ?_⟩
          · rw [dk_put, e1]
            exact Vc.getN (by omega) (getS g4)
          · rw [List.map_append]
            exact getS (Vc.getN (by omega) g5)
          · intro y hy
            rcases List.mem_append.mp hy with hy | hy
            · exact i3 y hy
            · rw [List.mem_singleton.mp hy]; exact hsnd
          · intro y hy
            rcases List.mem_append.mp hy with hy | hy
            · exact List.mem_append_left _ (i4 y hy)
            · exact List.mem_append_right _ hy
          · intro y hy hyw hyx c hc
            rcases List.mem_append.mp hy with hy | hy
            · exact List.mem_append_left _ (i5 y hy (fun z => hyw (List.mem_append_left _ z)) hyx c hc)
            · exact absurd (List.mem_append_right _ hy) hyw
          · intro c hc
            rcases List.mem_append.mp hc with hc | hc
            · exact List.mem_append_left _ (i6 c hc)
            · exact List.mem_append_right _ hc
          · rw [List.length_append, List.length_append, List.length_singleton]
            omega
      · rintro e M2 ⟨ts2, W2, ⟨e4, rfl⟩, hp2, g4, g5, i1, i2, i3, i4, i5, i6, i7⟩
        rw [List.length_append, List.length_singleton] at hk ⊢
        refine ⟨trivial, _, ?_, ?_, ts2, W2, ⟨_, rfl⟩, hp2, g4, g5, ⟨i1, fun n hn => i2 n (hf.inc n hn), i3, i4, fun t ht hw c hc => ?_⟩, rfl⟩
        · omega
        · omega
        · by_cases hx2 : t = x
          · subst hx2
            exact i6 c ((hrm c).mpr ⟨t, by simp, hc⟩)
          · exact i5 t ht hw hx2 c hc
  obtain ⟨d, h1, r, rfl, h2⟩ := main
  exact ⟨r, h1, h2⟩
/-- the nodes along a word -/
theorem along_ok {C : Addr} {E : List Ed} {o a b : Nat} {M : Mem} {N : Uni} (hN : N.Ok) (hE : EdIn N E) (hl : E.length ≤ 1000) (h : WaysAt C E o a b M) (h0 : NestedKey.none ∈ N.S) {ns w : List NestedKey} (hns : ∀ n ∈ ns, n ∈ N.U) (hnl : ns.length ≤ 900) (hw : ∀ s ∈ w, s ∈ N.S) :
    ∃ r : List NestedKey, F_Ways_along C [.ref o, .lst (ns.map toD), .tup (w.map toD)] M = some (.lst (r.map toD), M) ∧ (∀ t ∈ r, t ∈ N.U) ∧ r.length ≤ 900 ∧ ∀ t, t ∈ r ↔ ∃ n ∈ ns, AlongR E n w t := by
  have main : ∃ d, F_Ways_along C [.ref o, .lst (ns.map toD), .tup (w.map toD)] M = some (d, M) ∧ ∃ r : List NestedKey, d = .lst (r.map toD) ∧ (∀ t ∈ r, t ∈ N.U) ∧ r.length ≤ 900 ∧ ∀ t, t ∈ r ↔ ∃ n ∈ ns, AlongR E n w t := by
    refine pureEx ?_
    show WS (m_Ways_along C [some (.ref o), some (.lst (ns.map toD)), some (.tup (w.map toD)), none] M) _
    have g1 := h.ob
    unfold m_Ways_along
    walk_at "vc"
    refine Vc.loop (f := toD) (xs := w) (fun pre e M1 => M1 = M ∧ ∃ (r : List NestedKey) (e3 : Option Dt), e = [some (.ref o), some (.lst (r.map toD)), some (.tup (w.map toD)), e3] ∧ (∀ t ∈ r, t ∈ N.U) ∧ r.length ≤ 900 ∧ ∀ v t, (∃ n ∈ ns, AlongR E n (pre ++ v) t) ↔ ∃ n ∈ r, AlongR E n v t) ?_ ?_ ?_
    · exact ⟨rfl, ns, none, rfl, hns, hnl, fun v t => by rw [List.nil_append]⟩
    · rintro pre s post e M1 hx ⟨rfl, r, e3, rfl, hr, hrl, hm⟩
      have hs : s ∈ w := by rw [hx]; simp
      obtain ⟨r2, q1, _, q3, q4⟩ := freely_ok hN hE hl h h0 hr hrl
      have hr2l : r2.length ≤ 90 := by
        have := hN.ul
        have := len_le ‹r2.Nodup› q3
        omega
      obtain ⟨r3, p1, p2, p3, p4⟩ := after_ok hN hE hl h q3 hr2l (hw s hs)
      refine ⟨trivial, ?_⟩
      walk_at "vc"
      refine ⟨rfl, r3, _, rfl, p3, by have := hN.ul; have := len_le p2 p3; omega, fun v t => ?_⟩
      rw [List.append_assoc, hm]
      constructor
      · rintro ⟨n, hn, ha⟩
        cases ha with
        | cons h1 h2 h3 => exact ⟨_, (p4 _).mpr ⟨_, (q4 _).mpr ⟨n, hn, h1⟩, h2⟩, h3⟩
      · rintro ⟨c, hc, ha⟩
        obtain ⟨y, hy, he⟩ := (p4 c).mp hc
        obtain ⟨n, hn, hf⟩ := (q4 y).mp hy
        exact ⟨n, hn, .cons hf he ha⟩
    · rintro e M1 ⟨rfl, r, e3, rfl, hr, hrl, hm⟩
      refine ⟨trivial, ?_⟩
      walk_at "vc"
      refine ⟨_, rfl, ⟨r, rfl, hr, hrl, fun t => ?_⟩, cls_toD _ _, Pfx.refl⟩
      have := hm [] t
      rw [List.append_nil] at this
      rw [this]
      constructor
      · intro ht; exact ⟨t, ht, .nil t⟩
      · rintro ⟨n, hn, ha⟩
        cases ha
        exact hn
  obtain ⟨d, h1, r, rfl, h2⟩ := main
  exact ⟨r, h1, h2⟩
end Sh
/-! The data layer, part y: ways are made; what is accepted. -/
namespace Sh
open PySem PySem.Spec PyProof.Rows L2 DL Ev Vc
theorem edD_get (e : Ed) (E : List Ed) : (kget (edD E) (edK e)).isSome = decide (e ∈ E) := by
  unfold edD
  induction E with
  | nil => rfl
  | cons x E ih =>
    rw [List.map_cons, kget]
    by_cases h : edK x = edK e
    · rw [if_pos h, decide_eq_true (by rw [edK_inj h]; exact List.mem_cons_self)]; rfl
    · rw [if_neg h, ih]
      have : e ∈ E ↔ e ∈ x :: E := by
        rw [List.mem_cons]
        constructor
        · exact .inr
        · rintro (rfl | h')
          · exact absurd rfl h
          · exact h'
      by_cases h2 : e ∈ E
      · rw [decide_eq_true h2, decide_eq_true (this.mp h2)]
      · rw [decide_eq_false h2, decide_eq_false fun z => h2 (this.mpr z)]
theorem edD_put {e : Ed} {E : List Ed} (h : e ∉ E) : kput (edD E) (edK e) (.bl true) = edD (E ++ [e]) := by
  rw [kput_new]
  · unfold edD; rw [List.map_append]; rfl
  · have := edD_get e E
    rw [decide_eq_false h] at this
    cases hk : kget (edD E) (edK e) with
    | none => rfl
    | some v => rw [hk] at this; cases this
theorem edD_len (E : List Ed) : (edD E).length = E.length := List.length_map _
/-- ways whose cells are behind a memory -/
structure WT (C : Addr) (E : List Ed) (o a b : Nat) (T : KD) (L : Nat) (M : Mem) : Prop where
  ob : M[o]? = some (some (.obj C ["_edges", "_to"] [.ref a, .ref b]))
  ed : M[a]? = some (some (kdD (edD E)))
  ne : a ≠ b
  to : M[b]? = some (some (kdD T))
  ok : ToOk M E T
  la : L ≤ a
  lb : L ≤ b
  lc : ∀ k c, kget T k = some (.ref c) → L ≤ c
theorem WT.ways {C : Addr} {E : List Ed} {o a b : Nat} {T : KD} {L : Nat} {M : Mem} (h : WT C E o a b T L M) : WaysAt C E o a b M := ⟨h.ob, h.ed, h.ne, T, h.to, h.ok⟩
def addE (E : List Ed) (e : Ed) : List Ed := if e ∈ E then E else E ++ [e]
theorem mem_addE {E : List Ed} {e x : Ed} : x ∈ addE E e ↔ x ∈ E ∨ x = e := by
  unfold addE
  by_cases h : e ∈ E
  · rw [if_pos h]
    constructor
    · exact .inl
    · rintro (h' | rfl)
      · exact h'
      · exact h
  · rw [if_neg h, List.mem_append, List.mem_singleton]
theorem addE_pos {E : List Ed} {e : Ed} (h : e ∈ E) : addE E e = E := by rw [addE, if_pos h]
theorem addE_neg {E : List Ed} {e : Ed} (h : e ∉ E) : addE E e = E ++ [e] := by rw [addE, if_neg h]
theorem addE_nodup {E : List Ed} {e : Ed} (h : E.Nodup) : (addE E e).Nodup := by
  unfold addE
  by_cases h2 : e ∈ E
  · rw [if_pos h2]; exact h
  · rw [if_neg h2, List.nodup_append]
    refine ⟨h, by simp, fun x hx y hy => ?_⟩
    rw [List.mem_singleton.mp hy]
    exact fun e => h2 (e ▸ hx)
theorem eed_dep {N : Uni} (hN : N.Ok) {e : Ed} (h : e.1 ∈ N.U ∧ e.2.1 ∈ N.S ∧ e.2.2 ∈ N.U) : (edK e).depth ≤ 8 := by
  have h1 := (hN.un _ h.1).2
  have h2 := (hN.sn _ h.2.1).2
  have h3 := (hN.un _ h.2.2).2
  simp only [edK, NestedKey.depth, NestedKey.depthAll]
  omega
theorem pair_inj {a b c d : NestedKey} (h : NestedKey.tup [a, b] = .tup [c, d]) : a = c ∧ b = d := by
  injection h with h
  injection h with h1 h
  injection h with h2
  exact ⟨h1, h2⟩
theorem add_ok {C : Addr} {E : List Ed} {o a b : Nat} {T : KD} {M0 M : Mem} {N : Uni} (hN : N.Ok) (hl : E.length ≤ 900) (h : WT C E o a b T M0.length M) (hp : Pfx M0 M) {e : Ed} (he : e.1 ∈ N.U ∧ e.2.1 ∈ N.S ∧ e.2.2 ∈ N.U) :
    ∃ M' T', F_Ways_add C [.ref o, toD (edK e)] M = some (.bl (decide (e ∉ E)), M') ∧ WT C (addE E e) o a b T' M0.length M' ∧ Pfx M0 M' ∧ M.length ≤ M'.length ∧ ∀ i c, M[i]? = some (some c) → (∀ ds, c ≠ .lst ds) → i ≠ a → i ≠ b → M'[i]? = some (some c) := by
  have hd := eed_dep hN he
  obtain ⟨n, s, t⟩ := e
  have g1 := h.ob
  have g2 := h.ed
  have g3 := h.to
  have hnd := (hN.un _ he.1).2
  have hsd := (hN.sn _ he.2.1).2
  have main : Wp (F_Ways_add C [.ref o, toD (edK (n, s, t))] M) fun d M' => d = .bl (decide ((n, s, t) ∉ E)) ∧ ∃ T', WT C (addE E (n, s, t)) o a b T' M0.length M' ∧ Pfx M0 M' ∧ M.length ≤ M'.length ∧ ∀ i c, M[i]? = some (some c) → (∀ ds, c ≠ .lst ds) → i ≠ a → i ≠ b → M'[i]? = some (some c) := by
    refine Vc.body' ?_
    show WS (m_Ways_add C [some (.ref o), some (toD (edK (n, s, t))), none, none, none] M) _
    unfold m_Ways_add
    walk_at "vc"
    refine Vc.kIn g2 hd (Vc.isB ?_)
    rw [edD_get]
    refine br_d (fun hin => ?_) (fun hin => ?_)
    · walk_at "vc"
      refine ⟨by rw [decide_eq_false (fun z => z hin)], T, ?_, hp, Nat.le_refl _, fun i c hc _ _ _ => hc⟩
      rw [addE, if_pos hin]
      exact h
    · walk_at "vc"
      refine Vc.kSt g2 hd (by rw [edD_len]; omega) ?_
      rw [edD_put hin]
      walk_at "vc"
      show Wp (tupG 3 _ (.tup [toD n, toD s, toD t]) _ _) _
      have hoa : a ≠ o := fun z => by subst z; rw [g1] at g2; cases g2
      have hob : b ≠ o := fun z => by subst z; rw [g1] at g3; cases g3
      have g1' : (M.set a (some (kdD (edD (E ++ [(n, s, t)])))))[o]? = some (some (.obj C ["_edges", "_to"] [.ref a, .ref b])) := Vc.getN hoa g1
      have g2' := Vc.getS (c := some (kdD (edD (E ++ [(n, s, t)])))) g2
      have g3' : (M.set a (some (kdD (edD (E ++ [(n, s, t)])))))[b]? = some (some (kdD T)) := Vc.getN h.ne g3
      have gl : ∀ (c : Nat) (l : List Dt), M[c]? = some (some (.lst l)) → (M.set a (some (kdD (edD (E ++ [(n, s, t)])))))[c]? = some (some (.lst l)) := fun c l g => Vc.getN (fun z => by subst z; rw [g2] at g; cases g) g
      have ff : ∀ i c, M[i]? = some (some c) → i ≠ a → (M.set a (some (kdD (edD (E ++ [(n, s, t)])))))[i]? = some (some c) := fun i c g z => Vc.getN (Ne.symm z) g
      have hp1 : Pfx M0 (M.set a (some (kdD (edD (E ++ [(n, s, t)]))))) := hp.set h.la
      have hlen : (M.set a (some (kdD (edD (E ++ [(n, s, t)]))))).length = M.length := List.length_set
      have hok := h.ok
      generalize hM1 : M.set a (some (kdD (edD (E ++ [(n, s, t)])))) = M1 at g1' g2' g3' gl ff hp1 hlen ⊢
      walk_at "vc"
      refine Vc.kSd (k := .tup [n, s]) (getA g3') (nsk_dep hnd hsd) (by have := hok.len; omega) ⟨fun v hv => ?_, fun hv => ?_⟩
      · obtain ⟨c, rfl, gc⟩ := hok.so n s v hv
        have gc1 := gl c _ gc
        have hcl := h.lc _ c hv
        have hml : ((tg E n s).map toD).length ≤ 900 := by have := tg_len E n s; rw [List.length_map]; omega
        walk_at "vc"
        refine ⟨by rw [decide_eq_true hin], T, ?_, hp1.app.set hcl, by rw [List.length_set, List.length_append, hlen]; omega, fun i c' g hl1 ha hb => ?_⟩
        · rw [addE, if_neg hin]
          have hca : c ≠ a := fun z => by subst z; rw [gc1] at g2'; cases g2'
          have hcb : c ≠ b := fun z => by subst z; rw [gc1] at g3'; cases g3'
          have hco : c ≠ o := fun z => by subst z; rw [gc1] at g1'; cases g1'
          refine ⟨Vc.getN hco (getA g1'), Vc.getN hca (getA g2'), h.ne, Vc.getN hcb (getA g3'), ⟨fun n' s' hn' => ?_, fun n' s' v' hv' => ?_, hok.ks, hok.inj, by rw [List.length_append]; have := hok.len; omega⟩, h.la, h.lb, h.lc⟩
          · rw [tg_snoc, if_neg, hok.no n' s' hn']
            rintro ⟨e1, e2⟩
            dsimp only at e1 e2
            subst e1 e2
            rw [hv] at hn'
            cases hn'
          · obtain ⟨c', rfl, gc'⟩ := hok.so n' s' v' hv'
            refine ⟨c', rfl, ?_⟩
            rw [tg_snoc]
            by_cases hm : n = n' ∧ s = s'
            · rw [if_pos hm]
              obtain ⟨rfl, rfl⟩ := hm
              rw [hv] at hv'
              cases hv'
              rw [List.map_append]
              exact Vc.getS (getA gc1)
            · rw [if_neg hm]
              refine Vc.getN (fun z => ?_) (getA (gl c' _ gc'))
              subst z
              exact hm (pair_inj (hok.inj _ _ c hv hv'))
        · have hci : c ≠ i := fun z => by subst z; rw [gc] at g; cases g; exact hl1 _ rfl
          exact Vc.getN hci (getA (ff i c' g ha))
      · have hbl := cell_lt g3'
        have hol := cell_lt g1'
        have hal := cell_lt g2'
        walk_at "vc"
        refine ⟨by rw [decide_eq_true hin], kput T (.tup [n, s]) (.ref M1.length), ?_, (hp1.app.set h.lb).set (by have := hp1.len; omega), by rw [List.length_set, List.length_set, List.length_append, hlen]; omega, fun i c' g hl1 ha hb => ?_⟩
        · rw [addE, if_neg hin]
          refine ⟨Vc.getN (by omega) (Vc.getN hob (getA g1')), Vc.getN (by omega) (Vc.getN (Ne.symm h.ne) (getA g2')), h.ne, Vc.getN (by omega) (Vc.getS (getA g3')), ⟨fun n' s' hn' => ?_, fun n' s' v' hv' => ?_, fun k v hv' => ?_, fun k1 k2 c h1 h2 => ?_, ?_⟩, h.la, h.lb, fun k c hc => ?_⟩
          · rw [kget_put] at hn'
            by_cases hm : NestedKey.tup [n, s] = .tup [n', s']
            · rw [if_pos hm] at hn'; cases hn'
            · rw [if_neg hm] at hn'
              rw [tg_snoc, if_neg, hok.no n' s' hn']
              rintro ⟨e1, e2⟩
              dsimp only at e1 e2
              exact hm (by rw [e1, e2])
          · rw [kget_put] at hv'
            by_cases hm : NestedKey.tup [n, s] = .tup [n', s']
            · rw [if_pos hm] at hv'
              cases hv'
              obtain ⟨rfl, rfl⟩ := pair_inj hm
              refine ⟨_, rfl, ?_⟩
              rw [tg_snoc, if_pos ⟨rfl, rfl⟩, hok.no n s hv]
              exact Vc.getS (Vc.getN (by omega) getL)
            · rw [if_neg hm] at hv'
              obtain ⟨c', rfl, gc'⟩ := hok.so n' s' v' hv'
              have gc1 := gl c' _ gc'
              have hcl := cell_lt gc1
              have hcb : b ≠ c' := fun z => by subst z; rw [gc1] at g3'; cases g3'
              refine ⟨c', rfl, ?_⟩
              rw [tg_snoc, if_neg (by rintro ⟨e1, e2⟩; dsimp only at e1 e2; exact hm (by rw [e1, e2]))]
              exact Vc.getN (by omega) (Vc.getN hcb (getA gc1))
          · rw [kget_put] at hv'
            by_cases m1 : NestedKey.tup [n, s] = k
            · exact ⟨n, s, m1.symm⟩
            · rw [if_neg m1] at hv'
              exact hok.ks k v hv'
          · have fresh : ∀ k, kget T k ≠ some (.ref M1.length) := fun k hk => by
              obtain ⟨n', s', rfl⟩ := hok.ks k _ hk
              obtain ⟨c', e, gc'⟩ := hok.so n' s' _ hk
              injection e with e
              have := cell_lt gc'
              omega
            rw [kget_put] at h1 h2
            by_cases m1 : NestedKey.tup [n, s] = k1
            · by_cases m2 : NestedKey.tup [n, s] = k2
              · exact m1.symm.trans m2
              · rw [if_pos m1] at h1
                rw [if_neg m2] at h2
                cases h1
                exact absurd h2 (fresh k2)
            · by_cases m2 : NestedKey.tup [n, s] = k2
              · rw [if_neg m1] at h1
                rw [if_pos m2] at h2
                cases h2
                exact absurd h1 (fresh k1)
              · rw [if_neg m1] at h1
                rw [if_neg m2] at h2
                exact hok.inj k1 k2 c h1 h2
          · have := kput_len (.tup [n, s]) (.ref M1.length) T
            have := hok.len
            rw [List.length_append, List.length_singleton]
            omega
          · rw [kget_put] at hc
            by_cases m1 : NestedKey.tup [n, s] = k
            · rw [if_pos m1] at hc
              cases hc
              exact hp1.len
            · rw [if_neg m1] at hc
              exact h.lc k c hc
        · have hil := cell_lt g
          exact Vc.getN (by omega) (Vc.getN (Ne.symm hb) (getA (ff i c' g ha)))
  obtain ⟨d, M', h1, rfl, T', h2⟩ := main
  exact ⟨M', T', h1, h2⟩
end Sh
/-! The data layer, part z: what a machine accepts, and what rules add to it. -/
namespace Sh
open PySem PySem.Spec PyProof.Rows L2 DL Ev Vc
/-- edges as data -/
def eds (E : List Ed) : List Dt := E.map fun e => toD (edK e)
theorem eds_map (E : List Ed) : eds E = (E.map edK).map toD := by unfold eds; rw [List.map_map]; rfl
theorem WT.pfx {C : Addr} {E : List Ed} {o a b : Nat} {T : KD} {L : Nat} {M M' : Mem} (h : WT C E o a b T L M) (p : Pfx M M') : WT C E o a b T L M' :=
  ⟨p.get h.ob, p.get h.ed, h.ne, p.get h.to, ⟨h.ok.no, fun n s v hv => by obtain ⟨c, e, g⟩ := h.ok.so n s v hv; exact ⟨c, e, p.get g⟩, h.ok.ks, h.ok.inj, h.ok.len⟩, h.la, h.lb, h.lc⟩
theorem ways_init {C : Addr} {E : List Ed} {N : Uni} (hN : N.Ok) (hE : EdIn N E) (hl : E.length ≤ 900) (hnd : E.Nodup) (M0 : Mem) {d0 : Dt} (hd0 : itemsOf (M0 ++ [some (.obj C [] [])]) d0 = some ⟨eds E, fun _ => True⟩) (hdd : ∀ M', Pfx M0 M' → itemsOf M' d0 = some ⟨eds E, fun _ => True⟩) :
    Wp (F_Ways_init C [.ref M0.length, d0] (M0 ++ [some (.obj C [] [])])) fun d M' => d = .non ∧ Pfx M0 M' ∧ ∃ a b T, WT C E M0.length a b T M0.length M' := by
  refine Vc.body' ?_
  show WS (m_Ways_init C [some (.ref M0.length), some d0, none] _) _
  unfold m_Ways_init
  walk_at "vc"
  simp only [List.nil_append, List.cons_append, List.append_assoc, Vc.m_set0, List.length_append, List.length_cons, List.length_nil, Nat.zero_add, Nat.add_assoc, Nat.reduceAdd]
  refine .mk (hdd _ ⟨_, rfl⟩) ?_
  refine Vc.loop (f := fun e => toD (edK e)) (xs := E) (fun pre e M1 => (∃ e2, e = [some (.ref M0.length), some d0, e2]) ∧ Pfx M0 M1 ∧ ∃ a b T, WT C pre M0.length a b T M0.length M1) ?_ ?_ ?_
  · refine ⟨⟨_, rfl⟩, ⟨_, rfl⟩, M0.length + 1, M0.length + 1 + 1, [], m_get0, m_getK (k := 1), by omega, m_getK (k := 2), ⟨fun _ _ _ => rfl, fun _ _ _ h => by simp [kget] at h, fun _ _ h => by simp [kget] at h, fun _ _ _ h => by simp [kget] at h, Nat.le_refl _⟩, by omega, by omega, fun _ _ h => by simp [kget] at h⟩
  · rintro pre x post e M1 hx ⟨⟨e2, rfl⟩, hp, a, b, T, hw⟩
    refine ⟨trivial, ?_⟩
    have hxE : x ∈ E := by rw [hx]; simp
    have hpl : pre.length ≤ 900 := by
      have := congrArg List.length hx
      rw [List.length_append, List.length_cons] at this
      omega
    have hn : x ∉ pre := fun z => by
      rw [hx, List.nodup_append] at hnd
      exact hnd.2.2 x z x List.mem_cons_self rfl
    obtain ⟨M2, T2, h1, h2, h3, _⟩ := add_ok hN hpl hw hp (hE.mem x hxE)
    have g1 := hw.ob
    walk_at "vc"
    rw [addE, if_neg hn] at h2
    exact ⟨⟨_, rfl⟩, h3, a, b, T2, h2⟩
  · rintro e M1 ⟨⟨e2, rfl⟩, hp, a, b, T, hw⟩
    exact ⟨trivial, rfl, hp, a, b, T, hw⟩
theorem in_order_ok {ks : List NestedKey} (hk : ∀ k ∈ ks, Kz k ∧ k.depth ≤ 3) (M : Mem) : F_in_order [.lst (ks.map toD)] M = some (.lst ((srt ks).map toD), M) := by
  refine Vc.pureFn (fun n => cls_toD n _) ?_
  show WS (m_in_order [some (.lst (ks.map toD))] M) _
  unfold m_in_order
  refine Vc.rt (sortW ?_)
  walk_at "vc"
  exact ⟨ks, rfl, fun k h => ⟨by have := (hk k h).2; omega, rank_ok 4 k M (by have := (hk k h).2; omega) (hk k h).1⟩, rfl, Pfx.refl⟩
theorem edK_kz {N : Uni} (hN : N.Ok) {e : Ed} (h : e.1 ∈ N.U ∧ e.2.1 ∈ N.S ∧ e.2.2 ∈ N.U) : Kz (edK e) ∧ (edK e).depth ≤ 3 := by
  have h1 := (hN.un _ h.1).2
  have h2 := (hN.sn _ h.2.1).2
  have h3 := (hN.un _ h.2.2).2
  have hd : (edK e).depth ≤ 3 := by
    simp only [edK, NestedKey.depth, NestedKey.depthAll]
    omega
  refine ⟨Kz.tup (by simp) (fun k hk => ?_) (by unfold edK at hd; omega), hd⟩
  simp only [List.mem_cons, List.not_mem_nil, or_false] at hk
  rcases hk with rfl | rfl | rfl
  · exact (hN.un _ h.1).1
  · exact (hN.sn _ h.2.1).1
  · exact (hN.un _ h.2.2).1
theorem edD_keys (E : List Ed) : kks (edD E) = (E.map edK).map toD := by
  unfold kks edD
  rw [List.map_map, List.map_map]; rfl
theorem edges_ok {C : Addr} {E : List Ed} {o a b : Nat} {M : Mem} {N : Uni} (hN : N.Ok) (hE : EdIn N E) (h : WaysAt C E o a b M) : F_Ways_edges C [.ref o] M = some (.tup ((srt (E.map edK)).map toD), M) := by
  refine Vc.pureFn (fun n => cl_tupD n _) ?_
  show WS (m_Ways_edges C [some (.ref o)] M) _
  have g1 := h.ob
  have g2 := h.ed
  have hio := in_order_ok (ks := E.map edK) (fun k hk => by
    obtain ⟨e, he, rfl⟩ := List.mem_map.mp hk
    exact edK_kz hN (hE.mem e he)) M
  rw [← edD_keys] at hio
  unfold m_Ways_edges
  walk_at "vc"
  refine listAK g2 ?_
  walk_at "vc"
  exact ⟨rfl, Pfx.refl⟩
theorem anyW {bs : List Bool} {M : Mem} {Q : Dt → Mem → Prop} (h : Q (.bl (bs.any id)) M) : Wp (anyF [.lst (bs.map .bl)] M) Q := .of (by simp only [anyF, lstAt, Option.bind_some, toBls_map, Option.map_some, pur_some]) h
/-- a machine as data -/
def macD (E : List Ed) (F : List NestedKey) : Dt := .tup [.tup (eds E), .tup (F.map toD)]
def cfgD (p : NestedKey) (w : List NestedKey) : Dt := .tup [toD p, .tup (w.map toD)]
theorem accepts_ok {C : Addr} {E : List Ed} {F : List NestedKey} {N : Uni} (hN : N.Ok) (hE : EdIn N E) (hl : E.length ≤ 900) (hnd : E.Nodup) (h0 : NestedKey.none ∈ N.S) (hF : ∀ f ∈ F, f ∈ N.U) {p : NestedKey} {w : List NestedKey} (hp : p ∈ N.U) (hw : ∀ s ∈ w, s ∈ N.S) (M : Mem) :
    ∃ r, F_accepts C [macD E F, cfgD p w] M = some (.bl r, M) ∧ (r = true ↔ AccR E F p w) := by
  have main : ∃ d, F_accepts C [macD E F, cfgD p w] M = some (d, M) ∧ ∃ r, d = .bl r ∧ (r = true ↔ AccR E F p w) := by
    refine pureEx ?_
    show WS (m_accepts C [some (macD E F), some (cfgD p w), none, none, none, none, none, none] M) _
    unfold m_accepts macD cfgD
    walk_at "vc"
    refine (ways_init hN hE hl hnd M rfl (fun _ _ => rfl)).mono ?_
    rintro d M1 ⟨rfl, hp1, a, b, T, hT⟩
    refine ⟨rfl, ?_⟩
    have g1 := hT.ob
    obtain ⟨r1, q1, q2, q3, q4⟩ := along_ok hN hE (by omega) hT.ways h0 (ns := [p]) (w := w) (by simpa using hp) (by simp) hw
    obtain ⟨r2, p1, p2, p3, p4⟩ := freely_ok hN hE (by omega) hT.ways h0 q2 q3
    have hr2 : r2.length ≤ 30 := by have := hN.ul; have := len_le p2 p3; omega
    simp only [List.map_cons, List.map_nil] at q1
    walk_at "vc"
    refine Vc.lcMap (f := toD) (xs := r2) (fun n => .bl (decide (n ∈ F))) (by omega) trivial ?_ ?_
    · intro n hn
      have hin : inO M1 (toD n) (.tup (F.map toD)) = some (decide (n ∈ F)) := inO_kT (hN.un n (p3 n hn)).1.toKx fun f hf => (hN.un f (hF f hf)).1.toKx
      walk_at "vc"
      exact ⟨rfl, rfl⟩
    · walk_at "vc"
      rw [show (r2.map fun n => Dt.bl (decide (n ∈ F))) = (r2.map fun n => decide (n ∈ F)).map .bl from by rw [List.map_map]; rfl]
      refine anyW ?_
      walk_at "vc"
      refine ⟨_, rfl, ⟨_, rfl, ?_⟩, by simp [DL.Cl], hp1⟩
      rw [List.any_map, List.any_eq_true]
      constructor
      · rintro ⟨n, hn, hf⟩
        obtain ⟨x, hx, hfr⟩ := (p4 n).mp hn
        obtain ⟨y, hy, ha⟩ := (q4 x).mp hx
        rw [List.mem_singleton.mp hy] at ha
        exact ⟨x, n, ha, hfr, of_decide_eq_true hf⟩
      · rintro ⟨x, n, ha, hfr, hf⟩
        exact ⟨n, (p4 n).mpr ⟨x, (q4 x).mpr ⟨p, by simp, ha⟩, hfr⟩, decide_eq_true hf⟩
  obtain ⟨d, h1, r, rfl, h2⟩ := main
  exact ⟨r, h1, h2⟩
/-! ### rules -/
structure Ru where
  p : NestedKey
  s : NestedKey
  q : NestedKey
  w : List NestedKey
  m : Int
def ruK (r : Ru) : NestedKey := .tup [r.p, r.s, r.q, .tup r.w, .num r.m]
structure RuIn (N : Uni) (rs : List Ru) : Prop where
  mem : ∀ r ∈ rs, r.p ∈ N.U ∧ r.s ∈ N.S ∧ r.q ∈ N.U ∧ (∀ s ∈ r.w, s ∈ N.S) ∧ r.w.length ≤ 5
def rus (rs : List Ru) : List Dt := rs.map fun r => toD (ruK r)
/-- the edge is missing by one rule -/
def NeedR (E : List Ed) (rs : List Ru) (e : Ed) : Prop := ∃ r ∈ rs, e.1 = r.p ∧ e.2.1 = r.s ∧ AlongR E r.q r.w e.2.2
def Closed (E : List Ed) (rs : List Ru) : Prop := ∀ e, NeedR E rs e → e ∈ E
theorem NeedR.mono {E E' : List Ed} {rs : List Ru} (h : ∀ e ∈ E, e ∈ E') {e : Ed} (hn : NeedR E rs e) : NeedR E' rs e := by
  obtain ⟨r, hr, h1, h2, h3⟩ := hn
  exact ⟨r, hr, h1, h2, h3.mono h⟩
theorem backward_ok {C : Addr} {E : List Ed} {rs : List Ru} {N : Uni} (hN : N.Ok) (hE : EdIn N E) (hl : E.length ≤ 900) (h0 : NestedKey.none ∈ N.S) (hR : RuIn N rs) (hrl : rs.length ≤ 30) {o a b : Nat} {M : Mem} (hW : WaysAt C E o a b M) :
    ∃ B : List Ed, F_backward_edges C [.tup (rus rs), .ref o] M = some (.lst (eds B), M) ∧ B.length ≤ 900 * rs.length ∧ (∀ e, e ∈ B ↔ NeedR E rs e) := by
  have main : ∃ d, F_backward_edges C [.tup (rus rs), .ref o] M = some (d, M) ∧ ∃ B : List Ed, d = .lst (eds B) ∧ B.length ≤ 900 * rs.length ∧ (∀ e, e ∈ B ↔ NeedR E rs e) := by
    refine pureEx ?_
    show WS (m_backward_edges C [some (.tup (rus rs)), some (.ref o), none, none, none, none, none, none, none] M) _
    have g1 := hW.ob
    unfold m_backward_edges
    walk_at "vc"
    refine Vc.loop (f := fun r => toD (ruK r)) (xs := rs) (fun pre e M1 => (∃ e3 e4 e5 e6 e7, e = [some (.tup (rus rs)), some (.ref o), some (.ref M.length), e3, e4, e5, e6, e7, none]) ∧ Pfx M M1 ∧ ∃ B : List Ed, M1[M.length]? = some (some (.lst (eds B))) ∧ B.length ≤ 900 * pre.length ∧ ∀ e, e ∈ B ↔ NeedR E pre e) ?_ ?_ ?_
    · exact ⟨⟨_, _, _, _, _, rfl⟩, Pfx.refl.app, [], getL, Nat.le_refl _, fun e => by simp [NeedR]⟩
    · rintro pre r post e M1 hx ⟨⟨e3, e4, e5, e6, e7, rfl⟩, hp, B, g2, hbl, hB⟩
      have hr : r ∈ rs := by rw [hx]; simp
      have hpl : pre.length < rs.length := by rw [hx]; simp
      obtain ⟨i1, i2, i3, i4, _⟩ := hR.mem r hr
      have hW1 := hW.pfx hp
      have g1' := hp.get g1
      obtain ⟨r1, q1, q2, q3, q4⟩ := along_ok hN hE (by omega) hW1 h0 (ns := [r.q]) (w := r.w) (by simpa using i3) (by simp) i4
      simp only [List.map_cons, List.map_nil] at q1
      refine ⟨trivial, ?_⟩
      show Wp (tupG 5 _ (.tup [toD r.p, toD r.s, toD r.q, .tup (toDs r.w), .int r.m]) _ _) _
      rw [toDs_map]
      walk_at "vc"
      refine Vc.lcMap (f := toD) (xs := r1) (fun n => toD (edK (r.p, r.s, n))) (by omega) trivial ?_ ?_
      · intro n hn
        walk_at "vc"
        exact ⟨rfl, rfl⟩
      · have hel : (eds B).length = B.length := List.length_map _
        walk_at "vc"
        refine ⟨⟨_, _, _, _, _, rfl⟩, hp.set (Nat.le_refl _), B ++ r1.map fun n => (r.p, r.s, n), ?_, ?_, fun e => ?_⟩
        · rw [getS g2]
          unfold eds
          rw [List.map_append, List.map_map]
          rfl
        · rw [List.length_append, List.length_append, List.length_map, List.length_singleton]
          omega
        · rw [List.mem_append, hB, List.mem_map]
          constructor
          · rintro (⟨r', h1, h2⟩ | ⟨n, hn, rfl⟩)
            · exact ⟨r', List.mem_append_left _ h1, h2⟩
            · obtain ⟨y, hy, ha⟩ := (q4 n).mp hn
              rw [List.mem_singleton.mp hy] at ha
              exact ⟨r, by simp, rfl, rfl, ha⟩
          · rintro ⟨r', h1, h2, h3, h4⟩
            rcases List.mem_append.mp h1 with h1 | h1
            · exact .inl ⟨r', h1, h2, h3, h4⟩
            · rw [List.mem_singleton.mp h1] at h2 h3 h4
              refine .inr ⟨e.2.2, (q4 _).mpr ⟨r.q, by simp, h4⟩, ?_⟩
              obtain ⟨x, y, z⟩ := e
              dsimp only at h2 h3
              rw [h2, h3]
    · rintro e M1 ⟨⟨e3, e4, e5, e6, e7, rfl⟩, hp, B, g2, hbl, hB⟩
      refine ⟨trivial, ?_⟩
      walk_at "vc"
      refine ⟨_, rfl, ⟨B, rfl, hbl, hB⟩, by rw [eds_map]; exact cls_toD _ _, hp.set (Nat.le_refl _)⟩
  obtain ⟨d, h1, B, rfl, h2⟩ := main
  exact ⟨B, h1, h2⟩
end Sh
/-! The data layer, part ma: what several laws make and find by themselves: pushdowns and machines. -/
namespace Sh
open PySem PySem.Spec PyProof.Rows L2 DL Ev Vc
/-! ### defs that several laws have (printed by gen.py) -/
noncomputable def m_law_start : SM :=
    (rtS (dispE [((cE (.str "cells")), (lcE (seqI (varE 0)) (.one 1) yesT (callE (pureF absF) (consA (callE (pureF intF) (consA (varE 1) nilA)) nilA)) [1])), ((cE (.str "at")), (cE (.int 0))), ((cE (.str "left")), (cE (.int 0))), ((cE (.str "mix")), (opE (pure2 addD) (cE (.int 7)) (callE lenF (consA (varE 0) nilA))))]))
noncomputable def F_law_start : FM := (body 2 (m_law_start))
noncomputable def m_law_draw : SM :=
    (seqS (ifS (andT (blT (opE eqD (opE ixA (varE 0) (cE (.str "left"))) (cE (.int 0)))) (blT (opE ltD (opE ixA (varE 0) (cE (.str "at"))) (callE lenF (consA (opE ixA (varE 0) (cE (.str "cells"))) nilA))))) (seqS (setS 2 (opE ixA (opE ixA (varE 0) (cE (.str "cells"))) (opE ixA (varE 0) (cE (.str "at")))))
    (seqS (asgS (opE (pure2 addD) (opE ixA (varE 0) (cE (.str "at"))) (cE (.int 1))) (subG (varE 0) (cE (.str "at"))))
    (seqS (asgS (opE (pure2 fmodD) (callE (pureF intF) (consA (opE (pure2 addD) (opE (pure2 addD) (opE (pure2 mulD) (opE ixA (varE 0) (cE (.str "mix"))) (cE (.int 48271))) (varE 2)) (cE (.int 11))) nilA)) (cE (.int 2147483647))) (subG (varE 0) (cE (.str "mix"))))
    (seqS (ifS (blT (opE ltD (varE 2) (opE (pure2 powD) (cE (.int 10)) (cE (.int 18))))) (rtS (opE (pure2 fmodD) (callE (pureF intF) (consA (varE 2) nilA)) (varE 1))) nxS)
    (asgS (varE 2) (subG (varE 0) (cE (.str "left")))))))) nxS)
    (seqS (ifS (blT (opE (pure2 gtI) (opE ixA (varE 0) (cE (.str "left"))) (cE (.int 0)))) (seqS (setS 3 (opE (pure2 fmodD) (callE (pureF intF) (consA (opE ixA (varE 0) (cE (.str "left"))) nilA)) (varE 1)))
    (seqS (asgS (opE (pure2 fdivD) (opE ixA (varE 0) (cE (.str "left"))) (varE 1)) (subG (varE 0) (cE (.str "left"))))
    (rtS (varE 3)))) nxS)
    (seqS (asgS (opE (pure2 fmodD) (callE (pureF intF) (consA (opE (pure2 addD) (opE (pure2 mulD) (opE ixA (varE 0) (cE (.str "mix"))) (cE (.int 48271))) (cE (.int 11))) nilA)) (cE (.int 2147483647))) (subG (varE 0) (cE (.str "mix"))))
    (rtS (opE (pure2 fmodD) (callE (pureF intF) (consA (opE (pure2 fmodD) (callE (pureF intF) (consA (opE (pure2 addD) (opE (pure2 mulD) (opE ixA (varE 0) (cE (.str "mix"))) (cE (.int 69621))) (cE (.int 5))) nilA)) (cE (.int 2147483629))) nilA)) (varE 1))))))
noncomputable def F_law_draw : FM := cutF (body 4 (m_law_draw))
noncomputable def m_law_pick : SM :=
    (rtS (opE ixA (varE 1) (callE F_law_draw (consA (varE 0) (consA (callE lenF (consA (varE 1) nilA)) nilA)))))
noncomputable def F_law_pick : FM := cutF (body 2 (m_law_pick))
noncomputable def m_law_pushdown : SM :=
    (seqS (setS 1 (lstC nilA))
    (seqS (forS (rngI (consA (opE (pure2 addD) (cE (.int 1)) (callE F_law_draw (consA (varE 0) (consA (cE (.int 8)) nilA)))) nilA)) (nameG 2) (seqS (setS 3 (callE tupleF (consA (lcE (rngI (consA (callE F_law_pick (consA (varE 0) (consA (lstE (consA (cE (.int 0)) (consA (cE (.int 0)) (consA (cE (.int 1)) (consA (cE (.int 2)) (consA (cE (.int 2)) nilA)))))) nilA))) nilA)) (.one 4) yesT (callE F_law_pick (consA (varE 0) (consA (lstE (consA (cE (.str "a")) (consA (cE (.str "b")) nilA))) nilA))) [4]) nilA)))
    (exS (mtE isL appG (varE 1) (consA (tupE (consA (callE F_law_draw (consA (varE 0) (consA (cE (.int 3)) nilA))) (consA (callE F_law_pick (consA (varE 0) (consA (lstE (consA (cE (.str "a")) (consA (cE (.str "b")) nilA))) nilA))) (consA (callE F_law_draw (consA (varE 0) (consA (cE (.int 3)) nilA))) (consA (varE 3) (consA (callE (pureF intF) (consA (opE eqD (callE F_law_draw (consA (varE 0) (consA (cE (.int 3)) nilA))) (cE (.int 0))) nilA)) nilA)))))) nilA)))))
    (rtS (callE tupleF (consA (varE 1) nilA)))))
noncomputable def F_law_pushdown : FM := cutF (body 5 (m_law_pushdown))
noncomputable def m_law_next : SM :=
    (seqS (setS 2 (lstC nilA))
    (seqS (forS (rngI (consA (callE lenF (consA (varE 0) nilA)) nilA)) (nameG 3) (seqS (asgS (opE ixA (varE 0) (varE 3)) (tupG 5 (consG (nameG 4) (consG (nameG 5) (consG (nameG 6) (consG (nameG 7) (consG (nameG 8) nilG)))))))
    (ifS (andT (blT (opE eqD (opE ixA (varE 1) (cE (.int 0))) (varE 4))) (blT (opE eqD (slE (opE ixA (varE 1) (cE (.int 1))) noO (someO (cE (.int 1)))) (tupE (consA (varE 5) nilA))))) (exS (mtE isL appG (varE 2) (consA (tupE (consA (varE 3) (consA (tupE (consA (varE 6) (consA (opE (pure2 addD) (varE 7) (slE (opE ixA (varE 1) (cE (.int 1))) (someO (cE (.int 1))) noO)) nilA))) nilA))) nilA))) nxS)))
    (rtS (frzE (varE 2)))))
noncomputable def F_law_next : FM := cutF (body 9 (m_law_next))
noncomputable def m_law_machine : SM :=
    (seqS (setS 2 (lstE (consA (cE (.int 0)) (consA (cE (.int 1)) (consA (cE (.int 2)) (consA (cE (.str "m")) (consA (cE (.str "n")) nilA)))))))
    (seqS (setS 3 (ifE (truT (varE 1)) (lstE (consA (cE (.str "m")) (consA (cE (.str "n")) nilA))) (varE 2)))
    (seqS (setS 4 (ifE (truT (varE 1)) (lstE (consA (cE (.str "a")) (consA (cE (.str "b")) nilA))) (lstE (consA (cE (.str "a")) (consA (cE (.str "b")) (consA (cE (.str "a")) (consA (cE (.str "b")) (consA (cE .non) nilA))))))))
    (seqS (setS 5 (lstC nilA))
    (seqS (forS (rngI (consA (callE F_law_draw (consA (varE 0) (consA (cE (.int 8)) nilA))) nilA)) (nameG 6) (exS (mtE isL appG (varE 5) (consA (tupE (consA (callE F_law_pick (consA (varE 0) (consA (varE 2) nilA))) (consA (callE F_law_pick (consA (varE 0) (consA (varE 4) nilA))) (consA (callE F_law_pick (consA (varE 0) (consA (varE 3) nilA))) nilA)))) nilA))))
    (seqS (setS 7 (lcE (seqI (varE 2)) (.one 8) (blT (opE eqD (callE F_law_draw (consA (varE 0) (consA (cE (.int 3)) nilA))) (cE (.int 0)))) (varE 8) [8]))
    (rtS (tupE (consA (callE tupleF (consA (callE F_law_once (consA (varE 5) nilA)) nilA)) (consA (callE tupleF (consA (varE 7) nilA)) nilA))))))))))
noncomputable def F_law_machine : FM := cutF (body 9 (m_law_machine))
noncomputable def m_law_free : SM :=
    (seqS (setS 2 (callE listB (consA (varE 1) nilA)))
    (seqS (forS (rngI (consA (cE (.int 40)) nilA)) (nameG 3) (seqS (setS 4 (lcE (seqI (varE 0)) (.one 5) (andT (blT (opE (pure2 isND) (opE ixA (varE 5) (cE (.int 1))) (cE .non))) (andT (blT (opE inD (opE ixA (varE 5) (cE (.int 0))) (varE 2))) (blT (opE notInD (opE ixA (varE 5) (cE (.int 2))) (varE 2))))) (opE ixA (varE 5) (cE (.int 2))) [5]))
    (seqS (ifS (blT (opE eqD (callE lenF (consA (varE 4) nilA)) (cE (.int 0)))) bkS nxS)
    (exS (mtE isL extG (varE 2) (consA (varE 4) nilA))))))
    (rtS (frzE (varE 2)))))
noncomputable def F_law_free : FM := cutF (body 6 (m_law_free))
noncomputable def m_law_along : SM :=
    (seqS (forS (seqI (varE 2)) (nameG 3) (seqS (setS 1 (callE F_law_free (consA (varE 0) (consA (varE 1) nilA))))
    (setS 1 (lcE (seqI (varE 0)) (.one 4) (andT (blT (opE eqD (opE ixA (varE 4) (cE (.int 1))) (varE 3))) (blT (opE inD (opE ixA (varE 4) (cE (.int 0))) (varE 1)))) (opE ixA (varE 4) (cE (.int 2))) [4]))))
    (rtS (varE 1)))
noncomputable def F_law_along : FM := cutF (body 5 (m_law_along))
noncomputable def m_law_accepts : SM :=
    (seqS (asgS (varE 0) (tupG 2 (consG (nameG 2) (consG (nameG 3) nilG))))
    (seqS (setS 4 (callE F_law_along (consA (varE 2) (consA (lstE (consA (opE ixA (varE 1) (cE (.int 0))) nilA)) (consA (opE ixA (varE 1) (cE (.int 1))) nilA)))))
    (rtS (callE anyF (consA (lcE (seqI (callE F_law_free (consA (varE 2) (consA (varE 4) nilA)))) (.one 5) yesT (opE inD (varE 5) (varE 3)) [5]) nilA)))))
noncomputable def F_law_accepts : FM := cutF (body 6 (m_law_accepts))
noncomputable def m_law_stacks : SM :=
    (seqS (setS 1 (lstC (consA (tupE nilA) nilA)))
    (seqS (setS 2 (lstE (consA (tupE nilA) nilA)))
    (seqS (forS (rngI (consA (varE 0) nilA)) (nameG 3) (seqS (setS 2 (opE (pure2 addD) (lcE (seqI (varE 2)) (.one 4) yesT (opE (pure2 addD) (varE 4) (tupE (consA (cE (.str "a")) nilA))) [4]) (lcE (seqI (varE 2)) (.one 4) yesT (opE (pure2 addD) (varE 4) (tupE (consA (cE (.str "b")) nilA))) [4])))
    (exS (mtE isL extG (varE 1) (consA (varE 2) nilA)))))
    (rtS (frzE (varE 1))))))
noncomputable def F_law_stacks : FM := cutF (body 5 (m_law_stacks))
noncomputable def m_law_ordered : SM :=
    (rtS (sortE (F_law_rank 4) (callE F_law_once (consA (varE 0) nilA))))
noncomputable def F_law_ordered : FM := cutF (body 1 (m_law_ordered))
noncomputable def m_law_reached : SM :=
    (seqS (setS 3 (lstC (consA (varE 1) nilA)))
    (seqS (setS 4 (lstE (consA (varE 1) nilA)))
    (seqS (forS (rngI (consA (varE 2) nilA)) (nameG 5) (seqS (setS 6 (lstC nilA))
    (seqS (forS (seqI (varE 4)) (nameG 7) (forS (seqI (callE F_law_next (consA (varE 0) (consA (varE 7) nilA)))) (tupG 2 (consG (nameG 8) (consG (nameG 9) nilG))) (ifS (andT (blT (opE notInD (varE 9) (varE 3))) (blT (opE ltD (callE lenF (consA (varE 3) nilA)) (cE (.int 60))))) (seqS (exS (mtE isL appG (varE 3) (consA (varE 9) nilA)))
    (exS (mtE isL appG (varE 6) (consA (varE 9) nilA)))) nxS)))
    (setS 4 (varE 6)))))
    (rtS (frzE (varE 3))))))
noncomputable def F_law_reached : FM := cutF (body 10 (m_law_reached))
theorem eq_draw : F_law_draw = F_draw := rfl
theorem eq_pick : F_law_pick = F_pick := rfl
theorem eq_start : F_law_start = F_start := rfl
theorem draw_h {i : Nat} {M : Mem} (h : IsSt i M) {b : Int} (hb : 0 < b) (hb2 : b < 1073741824) : ∃ (r : Nat) (M' : Mem), (r : Int) < b ∧ Dr i M M' ∧ F_law_draw [.ref i, .int b] M = some (.int (r : Nat), M') := draw_k h hb hb2
theorem pick_h {i : Nat} {M : Mem} {ks : List NestedKey} (h : IsSt i M) (h0 : ks ≠ []) (hl : ks.length < 1000) : ∃ k M', k ∈ ks ∧ Dr i M M' ∧ F_law_pick [.ref i, .lst (ks.map toD)] M = some (toD k, M') := pick_keys h h0 hl
theorem pick_hi {i : Nat} {M : Mem} {ks : List Int} (h : IsSt i M) (h0 : ks ≠ []) (hl : ks.length < 1000) : ∃ k M', k ∈ ks ∧ Dr i M M' ∧ F_law_pick [.ref i, .lst (ks.map .int)] M = some (.int k, M') := pick_int h h0 hl
/-- what a value walks, now and while cells are put behind -/
def Walks (M : Mem) (d : Dt) (xs : List Dt) : Prop := ∀ M', Pfx M M' → ∃ gd : Mem → Prop, itemsOf M' d = some ⟨xs, gd⟩ ∧ ∀ M2, Pfx M M2 → gd M2
theorem Walks.lst {M : Mem} {xs : List Dt} : Walks M (.lst xs) xs := fun _ _ => ⟨_, rfl, fun _ _ => trivial⟩
theorem Walks.tup {M : Mem} {xs : List Dt} : Walks M (.tup xs) xs := fun _ _ => ⟨_, rfl, fun _ _ => trivial⟩
theorem Walks.ref {M : Mem} {i : Nat} {xs : List Dt} (g : M[i]? = some (some (.lst xs))) : Walks M (.ref i) xs := fun M' p => ⟨_, by simp only [itemsOf, p.get g], fun M2 p2 => p2.get g⟩
theorem Walks.pfx {M M' : Mem} {d : Dt} {xs : List Dt} (h : Walks M d xs) (p : Pfx M M') : Walks M' d xs := fun M2 p2 => by
  obtain ⟨gd, h1, h2⟩ := h M2 (p.trans p2)
  exact ⟨gd, h1, fun M3 p3 => h2 M3 (p.trans p3)⟩
theorem law_once_ok {M : Mem} {d : Dt} {ks : List NestedKey} (hw : Walks M d (ks.map toD)) (hk : ∀ k ∈ ks, Kx k) (hl : ks.length ≤ 50000) : F_law_once [d] M = some (.lst ((once ks).map toD), M) := by
  refine Vc.pureFn (fun n => cls_toD n _) ?_
  show WS (m_law_once [some d, none, none] M) _
  unfold m_law_once
  walk_at "vc"
  obtain ⟨gd, h1, h2⟩ := hw _ (Pfx.refl.app (t := [some (Dt.lst [])]))
  refine .mk h1 ?_
  refine Vc.loop (f := toD) (xs := ks) (fun pre e M1 => (∃ e2, e = [some d, some (.ref M.length), e2]) ∧ Pfx M M1 ∧ M1[M.length]? = some (some (.lst ((once pre).map toD)))) ?_ ?_ ?_
  · exact ⟨⟨_, rfl⟩, Pfx.refl.app, getL⟩
  · rintro pre k post e M1 hx ⟨⟨e2, rfl⟩, hp, g⟩
    have hkk : Kx k := hk k (by rw [hx]; simp)
    have hin : inO M1 (toD k) (.ref M.length) = some (decide (k ∈ once pre)) := inO_kR g hkk fun x hx' => hk x (by rw [hx]; exact List.mem_append_left _ (once_mem.mp hx'))
    have hpl : ((once pre).map toD).length < 100000 := by
      have := once_len pre
      have := congrArg List.length hx
      rw [List.length_append, List.length_cons] at this
      rw [List.length_map]
      omega
    refine ⟨h2 _ hp, ?_⟩
    rw [once_snoc, insK]
    by_cases hm : k ∈ once pre
    · rw [decide_eq_true hm] at hin
      rw [if_pos hm]
      walk_at "vc"
      exact ⟨⟨_, rfl⟩, hp, g⟩
    · rw [decide_eq_false hm] at hin
      rw [if_neg hm]
      walk_at "vc"
      refine ⟨⟨_, rfl⟩, hp.set (Nat.le_refl _), ?_⟩
      rw [List.map_append]
      exact getS g
  · rintro e M1 ⟨⟨e2, rfl⟩, hp, g⟩
    refine ⟨h2 _ hp, ?_⟩
    walk_at "vc"
    exact ⟨rfl, hp.set (Nat.le_refl _)⟩
theorem law_ordered_ok {M : Mem} {d : Dt} {ks : List NestedKey} (hw : Walks M d (ks.map toD)) (hk : ∀ k ∈ ks, Kz k ∧ k.depth ≤ 3) (hl : ks.length ≤ 50000) : F_law_ordered [d] M = some (.lst ((srt (once ks)).map toD), M) := by
  refine Vc.pureFn (fun n => cls_toD n _) ?_
  show WS (m_law_ordered [some d] M) _
  have h1 := law_once_ok hw (fun k h => (hk k h).1.toKx) hl
  unfold m_law_ordered
  refine Vc.rt (sortW ?_)
  walk_at "vc"
  exact ⟨once ks, rfl, fun k h => ⟨by have := (hk k (once_mem.mp h)).2; omega, lrank_ok 4 k M (by have := (hk k (once_mem.mp h)).2; omega) (hk k (once_mem.mp h)).1⟩, rfl, Pfx.refl⟩
/-! ### the law's own ways -/
theorem law_free_ok {E : List Ed} {M : Mem} {d : Dt} {N : Uni} (hN : N.Ok) (hE : EdIn N E) (hl : E.length ≤ 900) (hw : Walks M d (eds E)) {ns : List NestedKey} (hns : ∀ n ∈ ns, n ∈ N.U) (hnl : ns.length ≤ 900) :
    ∃ r : List NestedKey, F_law_free [d, .lst (ns.map toD)] M = some (.lst (r.map toD), M) ∧ (∀ t ∈ r, t ∈ N.U) ∧ r.length ≤ 40000 ∧ ∀ t, t ∈ r ↔ ∃ n ∈ ns, FreeR E n t := by
  have main : ∃ v, F_law_free [d, .lst (ns.map toD)] M = some (v, M) ∧ ∃ r : List NestedKey, v = .lst (r.map toD) ∧ (∀ t ∈ r, t ∈ N.U) ∧ r.length ≤ 40000 ∧ ∀ t, t ∈ r ↔ ∃ n ∈ ns, FreeR E n t := by
    refine pureEx ?_
    show WS (m_law_free [some d, some (.lst (ns.map toD)), none, none, none, none] M) _
    have inU : ∀ {ts : List NestedKey}, (∀ t ∈ ts, ∃ n ∈ ns, FreeR E n t) → ∀ t ∈ ts, t ∈ N.U := fun hs t ht => by
      obtain ⟨n, hn, hf⟩ := hs t ht
      exact free_in hE (hns n hn) hf
    have fin : ∀ {e : Sl} {M1 : Mem} {r : List NestedKey}, Pfx M M1 → (∀ t ∈ r, ∃ n ∈ ns, FreeR E n t) → (∀ n ∈ ns, n ∈ r) → (∀ t ∈ r, ∀ c, (t, NestedKey.none, c) ∈ E → c ∈ r) → r.length ≤ 40000 → Pfx M (M1.set M.length none) → (∃ d_1, Fl.rt (Dt.lst (r.map toD)) = Fl.rt d_1 ∧ (∃ r_1 : List NestedKey, d_1 = .lst (r_1.map toD) ∧ (∀ t ∈ r_1, t ∈ N.U) ∧ r_1.length ≤ 40000 ∧ ∀ t, t ∈ r_1 ↔ ∃ n ∈ ns, FreeR E n t) ∧ DL.Cl M.length d_1 ∧ Pfx M (M1.set M.length none)) := by
      intro e M1 r hp h1 h2 h3 h4 hp2
      refine ⟨_, rfl, ⟨r, rfl, inU h1, h4, fun t => ⟨h1 t, ?_⟩⟩, cls_toD _ _, hp2⟩
      rintro ⟨n, hn, hf⟩
      induction hf with
      | refl => exact h2 n hn
      | step _ he ih => exact h3 _ ih _ he
    unfold m_law_free
    walk_at "vc"
    refine Vc.loop (f := fun i : Nat => .int (i : Nat)) (xs := List.range 40) (fun pre e M1 => (∃ e3 e4, e = [some d, some (.lst (ns.map toD)), some (.ref M.length), e3, e4, none]) ∧ Pfx M M1 ∧ ∃ r : List NestedKey, M1[M.length]? = some (some (.lst (r.map toD))) ∧ (∀ t ∈ r, ∃ n ∈ ns, FreeR E n t) ∧ (∀ n ∈ ns, n ∈ r) ∧ r.length ≤ 900 + 900 * pre.length ∧ pre.length ≤ (once r).length) ?_ ?_ ?_
    · exact ⟨⟨_, _, rfl⟩, Pfx.refl.app, ns, getL, fun t ht => ⟨t, ht, .refl t⟩, fun n hn => hn, by simp; omega, Nat.zero_le _⟩
    · rintro pre x post e M1 hx ⟨⟨e3, e4, rfl⟩, hp, r, g, i1, i2, i3, i4⟩
      obtain ⟨rfl, hxl⟩ := range_pre hx
      refine ⟨trivial, ?_⟩
      obtain ⟨gd, w1, w2⟩ := hw M1 hp
      let more : List Ed := E.filter fun e => decide (e.2.1 = NestedKey.none) && (decide (e.1 ∈ r) && !decide (e.2.2 ∈ r))
      have hml : more.length ≤ 900 := Nat.le_trans (List.length_filter_le _ _) hl
      refine Vc.nameG' (Vc.seq (Vc.set' (Vc.lc (Vc.seqI' (Vc.var rfl (.mk w1 ?_))))))
      refine Vc.lcFil (f := fun e => toD (edK e)) (xs := E) (fun e => decide (e.2.1 = NestedKey.none) && (decide (e.1 ∈ r) && !decide (e.2.2 ∈ r))) (fun e => toD e.2.2) (by omega) (w2 _ hp) ?_ ?_
      · rintro ⟨a, s, t⟩ he
        obtain ⟨ha, hs, ht⟩ := hE.mem _ he
        have h1 : inO M1 (toD a) (.ref M.length) = some (decide (a ∈ r)) := inO_kR g (hN.un _ ha).1.toKx fun y hy => (hN.un y (inU i1 y hy)).1.toKx
        have h2 : inO M1 (toD t) (.ref M.length) = some (decide (t ∈ r)) := inO_kR g (hN.un _ ht).1.toKx fun y hy => (hN.un y (inU i1 y hy)).1.toKx
        refine Vc.t1 ?_
        simp only [edK, toD, toDs]
        have hno : DL.isNon (toD s) = decide (s = .none) := by cases s <;> simp [toD, DL.isNon]
        cases hs0 : decide (s = NestedKey.none) with
        | false =>
          rw [hs0] at hno
          walk_at "vc"
          exact ⟨rfl, rfl, fun z => by simp at z⟩
        | true =>
          rw [hs0] at hno
          cases ha0 : decide (a ∈ r) with
          | false =>
            rw [ha0] at h1
            walk_at "vc"
            exact ⟨rfl, rfl, fun z => by simp at z⟩
          | true =>
            rw [ha0] at h1
            walk_at "vc"
            refine ⟨rfl, rfl, fun _ => ?_⟩
            walk_at "vc"
            exact ⟨rfl, rfl⟩
      · show SK Fl.nx (([some d, some (.lst (ns.map toD)), some (.ref M.length), some (.int (pre.length : Nat)), e4, none] : Sl).set 4 (some (.lst (more.map fun e => toD e.2.2)))) M1 _ _
        have hmem : ∀ e, e ∈ more ↔ e ∈ E ∧ e.2.1 = NestedKey.none ∧ e.1 ∈ r ∧ e.2.2 ∉ r := fun e => by
          simp [more, List.mem_filter, and_assoc]
        walk_at "vc"
        refine br_d (fun hz => ?_) (fun hz => ?_)
        · have hm0 : more = [] := List.length_eq_zero_iff.mp (by omega)
          walk_at "vc"
          exact fin (e := []) hp i1 i2 (fun t ht c hc => by
            by_cases hcr : c ∈ r
            · exact hcr
            · have := (hmem (t, .none, c)).mpr ⟨hc, rfl, ht, hcr⟩
              rw [hm0] at this
              cases this) (by omega) (hp.set (Nat.le_refl _))
        · have hrl : (r.map toD).length = r.length := List.length_map _
          have hml2 : (more.map fun e => toD e.2.2).length = more.length := List.length_map _
          walk_at "vc"
          refine ⟨⟨_, _, rfl⟩, hp.set (Nat.le_refl _), r ++ more.map fun e => e.2.2, ?_, fun t ht => ?_, fun n hn => List.mem_append_left _ (i2 n hn), ?_, ?_⟩
          · rw [getS g, List.map_append, List.map_map]
            rfl
          · rcases List.mem_append.mp ht with ht | ht
            · exact i1 t ht
            · obtain ⟨⟨a, s, t'⟩, he, rfl⟩ := List.mem_map.mp ht
              obtain ⟨h1, h2, h3, _⟩ := (hmem _).mp he
              dsimp only at h2 h3
              subst h2
              obtain ⟨n, hn, hf⟩ := i1 a h3
              exact ⟨n, hn, .step hf h1⟩
          · rw [List.length_append, List.length_append, List.length_map, List.length_singleton]
            omega
          · rw [List.length_append, List.length_singleton]
            obtain ⟨e, he⟩ := List.exists_mem_of_ne_nil more (fun z => hz (by rw [z]; rfl))
            obtain ⟨_, _, _, h4⟩ := (hmem e).mp he
            have h5 := len_le (l := once r ++ [e.2.2]) (m := once (r ++ more.map fun e => e.2.2)) (by
              rw [List.nodup_append]
              refine ⟨once_nodup r, by simp, fun x hx y hy => ?_⟩
              rw [List.mem_singleton.mp hy]
              exact fun z => h4 (z ▸ once_mem.mp hx)) (fun x hx => by
              rw [once_mem]
              rcases List.mem_append.mp hx with hx | hx
              · exact List.mem_append_left _ (once_mem.mp hx)
              · rw [List.mem_singleton.mp hx]
                exact List.mem_append_right _ (List.mem_map_of_mem he))
            rw [List.length_append, List.length_singleton] at h5
            omega
    · rintro e M1 ⟨⟨e3, e4, rfl⟩, hp, r, g, i1, i2, i3, i4⟩
      rw [List.length_range] at i4
      have h5 := len_le (once_nodup r) fun x hx => inU i1 x (once_mem.mp hx)
      have := hN.ul
      omega
  obtain ⟨v, h1, r, rfl, h2⟩ := main
  exact ⟨r, h1, h2⟩
end Sh
/-! The data layer, part mb: pushdowns and machines are drawn; plays. -/
namespace Sh
open PySem PySem.Spec PyProof.Rows L2 DL Ev Vc
theorem law_along_ok {E : List Ed} {M : Mem} {d : Dt} {N : Uni} (hN : N.Ok) (hE : EdIn N E) (hl : E.length ≤ 900) (hw : Walks M d (eds E)) {ns w : List NestedKey} (hns : ∀ n ∈ ns, n ∈ N.U) (hnl : ns.length ≤ 900) (hww : ∀ s ∈ w, s ∈ N.S) :
    ∃ r : List NestedKey, F_law_along [d, .lst (ns.map toD), .tup (w.map toD)] M = some (.lst (r.map toD), M) ∧ (∀ t ∈ r, t ∈ N.U) ∧ r.length ≤ 900 ∧ ∀ t, t ∈ r ↔ ∃ n ∈ ns, AlongR E n w t := by
  have main : ∃ v, F_law_along [d, .lst (ns.map toD), .tup (w.map toD)] M = some (v, M) ∧ ∃ r : List NestedKey, v = .lst (r.map toD) ∧ (∀ t ∈ r, t ∈ N.U) ∧ r.length ≤ 900 ∧ ∀ t, t ∈ r ↔ ∃ n ∈ ns, AlongR E n w t := by
    refine pureEx ?_
    show WS (m_law_along [some d, some (.lst (ns.map toD)), some (.tup (w.map toD)), none, none] M) _
    unfold m_law_along
    walk_at "vc"
    refine Vc.loop (f := toD) (xs := w) (fun pre e M1 => M1 = M ∧ ∃ (r : List NestedKey) (e3 : Option Dt), e = [some d, some (.lst (r.map toD)), some (.tup (w.map toD)), e3, none] ∧ (∀ t ∈ r, t ∈ N.U) ∧ r.length ≤ 900 ∧ ∀ v t, (∃ n ∈ ns, AlongR E n (pre ++ v) t) ↔ ∃ n ∈ r, AlongR E n v t) ?_ ?_ ?_
    · exact ⟨rfl, ns, none, rfl, hns, hnl, fun v t => by rw [List.nil_append]⟩
    · rintro pre s post e M1 hx ⟨rfl, r, e3, rfl, hr, hrl, hm⟩
      have hs : s ∈ w := by rw [hx]; simp
      obtain ⟨r2, q1, q3, q5, q4⟩ := law_free_ok hN hE hl hw hr hrl
      obtain ⟨gd, w1, w2⟩ := hw M1 Pfx.refl
      refine ⟨trivial, ?_⟩
      refine Vc.nameG' (Vc.seqC (R := fun e M2 => M2 = M1 ∧ e = [some d, some (.lst (r2.map toD)), some (.tup (w.map toD)), some (toD s), none]) ?_ ?_)
      · walk_at "vc"
        exact ⟨rfl, rfl, rfl⟩
      rintro e M2 ⟨rfl, rfl⟩
      refine Vc.set' (Vc.lc (Vc.seqI' (Vc.var rfl (.mk w1 ?_))))
      refine Vc.lcFil (f := fun e => toD (edK e)) (xs := E) (fun e => decide (e.2.1 = s) && decide (e.1 ∈ r2)) (fun e => toD e.2.2) (by omega) (w2 _ Pfx.refl) ?_ ?_
      · rintro ⟨a, s', t⟩ he
        obtain ⟨ha, hs', ht⟩ := hE.mem _ he
        have h1 : inO M2 (toD a) (.lst (r2.map toD)) = some (decide (a ∈ r2)) := inO_kL (hN.un _ ha).1.toKx fun y hy => (hN.un y (q3 y hy)).1.toKx
        have h2 : eqO M2 (toD s') (toD s) = some (decide (s' = s)) := eqO_k (hN.sn _ hs').1.toKx (hN.sn _ (hww s hs)).1.toKx
        refine Vc.t1 ?_
        simp only [edK, toD, toDs]
        cases hs0 : decide (s' = s) with
        | false =>
          rw [hs0] at h2
          walk_at "vc"
          exact ⟨rfl, rfl, fun z => by simp at z⟩
        | true =>
          rw [hs0] at h2
          walk_at "vc"
          refine ⟨by simp, rfl, fun _ => ?_⟩
          walk_at "vc"
          exact ⟨rfl, rfl⟩
      · refine ⟨rfl, (E.filter fun e => decide (e.2.1 = s) && decide (e.1 ∈ r2)).map fun e => e.2.2, _, by rw [List.map_map]; rfl, fun t ht => ?_, ?_, fun v t => ?_⟩
        · obtain ⟨e, he, rfl⟩ := List.mem_map.mp ht
          exact (hE.mem e (List.mem_filter.mp he).1).2.2
        · rw [List.length_map]
          exact Nat.le_trans (List.length_filter_le _ _) hl
        · rw [List.append_assoc, hm]
          constructor
          · rintro ⟨n, hn, ha⟩
            cases ha with
            | @cons _ b c _ _ _ h1 h2 h3 =>
              refine ⟨c, List.mem_map.mpr ⟨(b, s, c), List.mem_filter.mpr ⟨h2, ?_⟩, rfl⟩, h3⟩
              rw [Bool.and_eq_true]
              exact ⟨decide_eq_true rfl, decide_eq_true ((q4 b).mpr ⟨n, hn, h1⟩)⟩
          · rintro ⟨c, hc, ha⟩
            obtain ⟨⟨b, s', c'⟩, he, rfl⟩ := List.mem_map.mp hc
            obtain ⟨h1, h2⟩ := List.mem_filter.mp he
            rw [Bool.and_eq_true] at h2
            have h3 := of_decide_eq_true h2.1
            dsimp only at h3
            subst h3
            obtain ⟨n, hn, hf⟩ := (q4 b).mp (of_decide_eq_true h2.2)
            exact ⟨n, hn, .cons hf h1 ha⟩
    · rintro e M1 ⟨rfl, r, e3, rfl, hr, hrl, hm⟩
      refine ⟨trivial, ?_⟩
      walk_at "vc"
      refine ⟨_, rfl, ⟨r, rfl, hr, hrl, fun t => ?_⟩, cls_toD _ _, Pfx.refl⟩
      have := hm [] t
      rw [List.append_nil] at this
      rw [this]
      constructor
      · intro ht; exact ⟨t, ht, .nil t⟩
      · rintro ⟨n, hn, ha⟩
        cases ha
        exact hn
  obtain ⟨v, h1, r, rfl, h2⟩ := main
  exact ⟨r, h1, h2⟩
theorem law_accepts_ok {E : List Ed} {F : List NestedKey} {N : Uni} (hN : N.Ok) (hE : EdIn N E) (hl : E.length ≤ 900) (hF : ∀ f ∈ F, f ∈ N.U) {p : NestedKey} {w : List NestedKey} (hp : p ∈ N.U) (hw : ∀ s ∈ w, s ∈ N.S) (M : Mem) :
    ∃ r, F_law_accepts [macD E F, cfgD p w] M = some (.bl r, M) ∧ (r = true ↔ AccR E F p w) := by
  have main : ∃ d, F_law_accepts [macD E F, cfgD p w] M = some (d, M) ∧ ∃ r, d = .bl r ∧ (r = true ↔ AccR E F p w) := by
    refine pureEx ?_
    show WS (m_law_accepts [some (macD E F), some (cfgD p w), none, none, none, none] M) _
    obtain ⟨r1, q1, q2, q3, q4⟩ := law_along_ok hN hE hl (Walks.tup (M := M)) (ns := [p]) (w := w) (by simpa using hp) (by simp) hw
    obtain ⟨r2, p1, p2, p3, p4⟩ := law_free_ok hN hE hl (Walks.tup (M := M)) q2 q3
    simp only [List.map_cons, List.map_nil] at q1
    unfold m_law_accepts macD cfgD
    walk_at "vc"
    refine Vc.lcMap (f := toD) (xs := r2) (fun n => .bl (decide (n ∈ F))) (by omega) trivial ?_ ?_
    · intro n hn
      have hin : inO M (toD n) (.tup (F.map toD)) = some (decide (n ∈ F)) := inO_kT (hN.un n (p2 n hn)).1.toKx fun f hf => (hN.un f (hF f hf)).1.toKx
      walk_at "vc"
      exact ⟨rfl, rfl⟩
    · walk_at "vc"
      rw [show (r2.map fun n => Dt.bl (decide (n ∈ F))) = (r2.map fun n => decide (n ∈ F)).map .bl from by rw [List.map_map]; rfl]
      refine anyW ?_
      walk_at "vc"
      refine ⟨_, rfl, ⟨_, rfl, ?_⟩, by simp [DL.Cl], Pfx.refl⟩
      rw [List.any_map, List.any_eq_true]
      constructor
      · rintro ⟨n, hn, hf⟩
        obtain ⟨x, hx, hfr⟩ := (p4 n).mp hn
        obtain ⟨y, hy, ha⟩ := (q4 x).mp hx
        rw [List.mem_singleton.mp hy] at ha
        exact ⟨x, n, ha, hfr, of_decide_eq_true hf⟩
      · rintro ⟨x, n, ha, hfr, hf⟩
        exact ⟨n, (p4 n).mpr ⟨x, (q4 x).mpr ⟨p, by simp, ha⟩, hfr⟩, decide_eq_true hf⟩
  obtain ⟨d, h1, r, rfl, h2⟩ := main
  exact ⟨r, h1, h2⟩
/-! ### what is drawn -/
def aS : List NestedKey := [.text "a", .text "b"]
def stN : List NestedKey := [.num 0, .num 1, .num 2]
theorem pick_ab {i : Nat} {M : Mem} (h : IsSt i M) : ∃ k M', k ∈ aS ∧ Dr i M M' ∧ F_law_pick [.ref i, .lst [.str "a", .str "b"]] M = some (toD k, M') := pick_h (ks := aS) h (by simp [aS]) (by simp [aS])
theorem draw_st {i : Nat} {M : Mem} (h : IsSt i M) : ∃ k M', k ∈ stN ∧ Dr i M M' ∧ F_law_draw [.ref i, .int 3] M = some (toD k, M') := by
  obtain ⟨r, M', h1, h2, h3⟩ := draw_h h (b := 3) (by decide) (by decide)
  refine ⟨.num r, M', ?_, h2, h3⟩
  have : r = 0 ∨ r = 1 ∨ r = 2 := by omega
  rcases this with rfl | rfl | rfl <;> simp [stN]
/-- a rule of a pushdown that was drawn -/
structure RuOk (r : Ru) : Prop where
  p : r.p ∈ stN
  s : r.s ∈ aS
  q : r.q ∈ stN
  w : ∀ s ∈ r.w, s ∈ aS
  l : r.w.length ≤ 2
  m : r.m = 0 ∨ r.m = 1
/-- M' is M but for the state at i, with cells behind -/
structure Dx (i : Nat) (M M' : Mem) : Prop where
  st : IsSt i M'
  oth : ∀ j, j < M.length → j ≠ i → M'[j]? = M[j]?
  len : M.length ≤ M'.length
theorem IsSt.lt {i : Nat} {M : Mem} (h : IsSt i M) : i < M.length := by
  obtain ⟨_, _, _, _, g, _⟩ := h
  exact cell_lt g
theorem IsSt.app {i : Nat} {M t : Mem} (h : IsSt i M) : IsSt i (M ++ t) := by
  obtain ⟨cs, p, l, m, h1, h2⟩ := h
  exact ⟨cs, p, l, m, getA h1, h2⟩
theorem IsSt.set {i c : Nat} {M : Mem} {x : Option Dt} (h : IsSt i M) (hc : c ≠ i) : IsSt i (M.set c x) := by
  obtain ⟨cs, p, l, m, h1, h2⟩ := h
  exact ⟨cs, p, l, m, Vc.getN hc h1, h2⟩
theorem Dx.app {i : Nat} {M M' t : Mem} (h : Dx i M M') : Dx i M (M' ++ t) := ⟨IsSt.app h.st, fun j hj hi => by rw [List.getElem?_append_left (Nat.lt_of_lt_of_le hj h.len)]; exact h.oth j hj hi, by rw [List.length_append]; have := h.len; omega⟩
theorem Dx.set {i c : Nat} {M M' : Mem} {x : Option Dt} (h : Dx i M M') (hc : M.length ≤ c) (hi : i < M.length) : Dx i M (M'.set c x) :=
  ⟨IsSt.set h.st (by omega), fun j hj hji => by rw [List.getElem?_set_ne (by omega)]; exact h.oth j hj hji, by rw [List.length_set]; exact h.len⟩
theorem Dx.dr {i : Nat} {M M1 M2 : Mem} (h : Dx i M M1) (d : Dr i M1 M2) : Dx i M M2 := ⟨d.st, fun j hj hi => (d.oth j hi).trans (h.oth j hj hi), by rw [d.len]; exact h.len⟩
theorem Dx.refl {i : Nat} {M : Mem} (h : IsSt i M) : Dx i M M := ⟨h, fun _ _ _ => rfl, Nat.le_refl _⟩
theorem Dx.take {i : Nat} {M M' : Mem} (h : Dx i M M') (hi : i < M.length) : Dr i M (M'.take M.length) := by
  obtain ⟨cs, p, l, m, g, k⟩ := h.st
  refine ⟨⟨cs, p, l, m, by rw [List.getElem?_take_of_lt hi]; exact g, k⟩, fun j hj => ?_, by rw [List.length_take]; have := h.len; omega⟩
  by_cases hl : j < M.length
  · rw [List.getElem?_take_of_lt hl]; exact h.oth j hl hj
  · rw [List.getElem?_eq_none (by rw [List.length_take]; omega), List.getElem?_eq_none (by omega)]
theorem getDr {i c : Nat} {M1 M2 : Mem} {x : Option Dt} (d : Dr i M1 M2) (hn : c ≠ i) (g : M1[c]? = some x) : M2[c]? = some x := (d.oth c hn).trans g
theorem cutX {F : FM} {ds : List Dt} {i : Nat} {M : Mem} {Q : Dt → Mem → Prop} (hi : i < M.length) (h : Wp (F ds M) fun d M' => DL.Cl M.length d ∧ Dx i M M' ∧ ∀ M2, Dr i M M2 → Q d M2) : Wp (cutF F ds M) Q := Vc.cut (h.mono fun d M' h => by
  obtain ⟨h1, h2, h3⟩ := h
  refine ⟨h1, fun j c hj hc => ?_, h3 _ (h2.take hi)⟩
  by_cases e : j = i
  · subst e
    obtain ⟨cs, p, l, m, g, _⟩ := h2.st
    rw [g] at hc
    cases hc
    exact .inr (cl_st _)
  · rw [h2.oth j hj e] at hc
    exact .inl hc)
theorem law_pushdown_ok {i : Nat} {M : Mem} (hs : IsSt i M) : ∃ (rs : List Ru) (M' : Mem), F_law_pushdown [.ref i] M = some (.tup (rus rs), M') ∧ Dr i M M' ∧ (∀ r ∈ rs, RuOk r) ∧ rs.length ≤ 8 ∧ 1 ≤ rs.length := by
  have hi := IsSt.lt hs
  have main : Wp (F_law_pushdown [.ref i] M) fun d M' => ∃ rs : List Ru, d = .tup (rus rs) ∧ Dr i M M' ∧ (∀ r ∈ rs, RuOk r) ∧ rs.length ≤ 8 ∧ 1 ≤ rs.length := by
    refine cutX hi (Vc.body' ?_)
    show WS (m_law_pushdown [some (.ref i), none, none, none, none] M) _
    unfold m_law_pushdown
    obtain ⟨r0, M1, hr0, d0, e0⟩ := draw_h (IsSt.app hs (t := [some (Dt.lst [])])) (b := 8) (by decide) (by decide)
    walk_at "vc"
    refine Vc.loop (f := fun i : Nat => .int (i : Nat)) (xs := List.range (r0 + 1)) (fun pre e M2 => (∃ e2 e3, e = [some (.ref i), some (.ref M.length), e2, e3, none]) ∧ Dx i M M2 ∧ ∃ rs : List Ru, M2[M.length]? = some (some (.lst (rus rs))) ∧ (∀ r ∈ rs, RuOk r) ∧ rs.length = pre.length) ?_ ?_ ?_
    · exact ⟨⟨_, _, rfl⟩, (Dx.refl hs).app.dr d0, [], getDr d0 (by omega) getL, by simp, rfl⟩
    · rintro pre x post e M2 hx ⟨⟨e2, e3, rfl⟩, hd, rs, g, i1, i2⟩
      obtain ⟨rfl, hxl⟩ := range_pre hx
      refine ⟨trivial, ?_⟩
      obtain ⟨nw, M3, hnw, d1, e4⟩ := pick_hi (ks := [0, 0, 1, 2, 2]) hd.st (by simp) (by simp)
      obtain ⟨nw, rfl, hnw2⟩ : ∃ m : Nat, nw = (m : Int) ∧ m ≤ 2 := by
        simp only [List.mem_cons, List.not_mem_nil, or_false] at hnw
        exact ⟨nw.toNat, by omega, by omega⟩
      simp only [List.map_cons, List.map_nil] at e4
      walk_at "vc"
      refine Vc.lcInv (f := fun i : Nat => .int (i : Nat)) (xs := List.range nw) (fun pr acc M4 => Dr i M3 M4 ∧ ∃ w : List NestedKey, acc = w.map toD ∧ (∀ s ∈ w, s ∈ aS) ∧ w.length = pr.length) (by rw [List.length_range]; omega) ⟨Dr.refl d1.st, [], rfl, by simp, rfl⟩ ?_ ?_
      · rintro pr y po acc M4 hy ⟨d2, w, rfl, w1, w2⟩
        obtain ⟨k, M5, hk, d3, e5⟩ := pick_ab d2.st
        refine ⟨trivial, ?_⟩
        walk_at "vc"
        refine ⟨d2.trans d3, w ++ [k], by rw [List.map_append]; rfl, fun s hs => ?_, by rw [List.length_append, List.length_append, w2]; rfl⟩
        rcases List.mem_append.mp hs with hs | hs
        · exact w1 s hs
        · rw [List.mem_singleton.mp hs]; exact hk
      · rintro acc M4 ⟨d2, w, rfl, w1, w2⟩
        rw [List.length_range] at w2
        refine ⟨trivial, ?_⟩
        walk_at "vc"
        obtain ⟨kp, M5, hp, d5, e5⟩ := draw_st d2.st
        obtain ⟨ks, M6, hks, d6, e6⟩ := pick_ab d5.st
        obtain ⟨kq, M7, hq, d7, e7⟩ := draw_st d6.st
        obtain ⟨rm, M8, hrm, d8, e8⟩ := draw_h d7.st (b := 3) (by decide) (by decide)
        have dall := d1.trans (d2.trans (d5.trans (d6.trans (d7.trans d8))))
        have g1 := getDr (d1.trans d2) (by omega) g
        have g8 := getDr dall (by omega) g
        have hrl : (rus rs).length < 100000 := by unfold rus; rw [List.length_map]; omega
        walk_at "vc"
        refine ⟨⟨_, _, rfl⟩, (hd.dr dall).set (Nat.le_refl _) hi, rs ++ [⟨kp, ks, kq, w, if decide ((rm : Int) = 0) = true then 1 else 0⟩], ?_, fun r hr => ?_, by rw [List.length_append, List.length_append, i2]; rfl⟩
        · rw [getS g8]
          unfold rus
          rw [List.map_append]
          simp only [ruK, List.map_cons, List.map_nil, toD, toDs, toDs_map]
        · rcases List.mem_append.mp hr with hr | hr
          · exact i1 r hr
          · rw [List.mem_singleton.mp hr]
            refine ⟨hp, hks, hq, w1, by dsimp only; omega, ?_⟩
            dsimp only
            split
            · exact .inr rfl
            · exact .inl rfl
    · rintro e M2 ⟨⟨e2, e3, rfl⟩, hd, rs, g, i1, i2⟩
      rw [List.length_range] at i2
      refine ⟨trivial, ?_⟩
      walk_at "vc"
      refine .of (a := .tup (rus rs)) (M' := M2) (by simp only [tupleF, seqAt, g]; rfl) ?_
      walk_at "vc"
      refine ⟨?_, hd, fun M3 d3 => ⟨rs, rfl, d3, i1, by omega, by omega⟩⟩
      have : rus rs = (rs.map ruK).map toD := by unfold rus; rw [List.map_map]; rfl
      rw [this]
      exact cl_tupD _ _
  obtain ⟨d, M', h1, rs, rfl, h2⟩ := main
  exact ⟨rs, M', h1, h2⟩
end Sh
/-! The data layer, part mc: machines are drawn; plays. -/
namespace Sh
open PySem PySem.Spec PyProof.Rows L2 DL Ev Vc
def n5 : Uni := ⟨[.num 0, .num 1, .num 2, .text "m", .text "n"], [.text "a", .text "b", .none]⟩
theorem n5_ok : n5.Ok := by
  have t : ∀ z : Str, (PyData.strOk z && decide (z.length ≤ 1000)) = true → Kz (.text z) := fun z h => by
    rw [Bool.and_eq_true, decide_eq_true_iff] at h
    exact Kz.text h.1 h.2
  have tm : Kz (.text "m") := t _ (by decide +kernel)
  have tn : Kz (.text "n") := t _ (by decide +kernel)
  have ta : Kz (.text "a") := t _ (by decide +kernel)
  have tb : Kz (.text "b") := t _ (by decide +kernel)
  have nm : ∀ i, Kz (.num i) := fun i => ⟨Kx.num, rfl⟩
  refine ⟨by decide, by decide, fun n hn => ?_, fun s hs => ?_⟩
  · simp only [n5, List.mem_cons, List.not_mem_nil, or_false] at hn
    rcases hn with rfl | rfl | rfl | rfl | rfl
    · exact ⟨nm _, Nat.zero_le _⟩
    · exact ⟨nm _, Nat.zero_le _⟩
    · exact ⟨nm _, Nat.zero_le _⟩
    · exact ⟨tm, Nat.zero_le _⟩
    · exact ⟨tn, Nat.zero_le _⟩
  · simp only [n5, List.mem_cons, List.not_mem_nil, or_false] at hs
    rcases hs with rfl | rfl | rfl
    · exact ⟨ta, rfl⟩
    · exact ⟨tb, rfl⟩
    · exact ⟨⟨Kx.none, rfl⟩, rfl⟩
theorem n5_none : NestedKey.none ∈ n5.S := by simp [n5]
theorem aS_in {k : NestedKey} (h : k ∈ aS) : k ∈ n5.S := by
  simp only [aS, List.mem_cons, List.not_mem_nil, or_false] at h
  rcases h with rfl | rfl <;> simp [n5]
theorem stN_in {k : NestedKey} (h : k ∈ stN) : k ∈ n5.U := by
  simp only [stN, List.mem_cons, List.not_mem_nil, or_false] at h
  rcases h with rfl | rfl | rfl <;> simp [n5]
theorem ru_in {rs : List Ru} (h : ∀ r ∈ rs, RuOk r) : RuIn n5 rs := ⟨fun r hr => ⟨stN_in (h r hr).p, aS_in (h r hr).s, stN_in (h r hr).q, fun s hs => aS_in ((h r hr).w s hs), by have := (h r hr).l; omega⟩⟩
/-! ### edges that are told once -/
def onceE (es : List Ed) : List Ed := es.foldl addE []
theorem onceE_once : ∀ (es X : List Ed), (es.map edK).foldl insK (X.map edK) = (es.foldl addE X).map edK
  | [], X => rfl
  | e :: es, X => by
    rw [List.map_cons, List.foldl_cons, List.foldl_cons, ← onceE_once es (addE X e)]
    congr 1
    have : edK e ∈ X.map edK ↔ e ∈ X := ⟨fun h => by
      obtain ⟨x, hx, h⟩ := List.mem_map.mp h
      rw [← edK_inj h]; exact hx, fun h => List.mem_map_of_mem h⟩
    unfold insK
    by_cases h : e ∈ X
    · rw [if_pos (this.mpr h), addE_pos h]
    · rw [if_neg (fun z => h (this.mp z)), addE_neg h, List.map_append]; rfl
theorem once_eds (es : List Ed) : once (es.map edK) = (onceE es).map edK := onceE_once es []
theorem mem_onceE {es : List Ed} {e : Ed} : e ∈ onceE es ↔ e ∈ es := by
  have main : ∀ (es X : List Ed), e ∈ es.foldl addE X ↔ e ∈ X ∨ e ∈ es := by
    intro es
    induction es with
    | nil => intro X; simp
    | cons b es ih => intro X; rw [List.foldl_cons, ih, mem_addE, List.mem_cons, or_assoc]
  rw [onceE, main]; simp
theorem onceE_nodup (es : List Ed) : (onceE es).Nodup := by
  have main : ∀ (es X : List Ed), X.Nodup → (es.foldl addE X).Nodup := by
    intro es
    induction es with
    | nil => intro X h; exact h
    | cons b es ih => intro X h; exact ih _ (addE_nodup h)
  exact main es [] List.nodup_nil
theorem onceE_len (es : List Ed) : (onceE es).length ≤ es.length := by
  have h := once_len (es.map edK)
  rw [once_eds, List.length_map, List.length_map] at h
  exact h
/-- what the law asks of a machine that is drawn -/
structure MaOk (E : List Ed) (F : List NestedKey) : Prop where
  nd : E.Nodup
  inn : EdIn n5 E
  fin : ∀ f ∈ F, f ∈ n5.U
  fnd : F.Nodup
  el : E.length ≤ 20
theorem law_machine_ok {i : Nat} {M : Mem} (hs : IsSt i M) (plain : Bool) : ∃ (E : List Ed) (F : List NestedKey) (M' : Mem), F_law_machine [.ref i, .bl plain] M = some (macD E F, M') ∧ Dr i M M' ∧ MaOk E F := by
  have hi := IsSt.lt hs
  have main : Wp (F_law_machine [.ref i, .bl plain] M) fun d M' => ∃ (E : List Ed) (F : List NestedKey), d = macD E F ∧ Dr i M M' ∧ MaOk E F := by
    refine cutX hi (Vc.body' ?_)
    show WS (m_law_machine [some (.ref i), some (.bl plain), none, none, none, none, none, none, none] M) _
    unfold m_law_machine
    refine Vc.seqC (R := fun e M1 => M1 = M ∧ e = [some (.ref i), some (.bl plain), some (.lst (n5.U.map toD)), none, none, none, none, none, none]) ?_ ?_
    · walk_at "vc"
      exact ⟨rfl, rfl, rfl⟩
    rintro e M1 ⟨rfl, rfl⟩
    refine Vc.seqC (R := fun e M2 => M2 = M1 ∧ ∃ ts : List NestedKey, (∀ t ∈ ts, t ∈ n5.U) ∧ ts ≠ [] ∧ ts.length ≤ 5 ∧ e = [some (.ref i), some (.bl plain), some (.lst (n5.U.map toD)), some (.lst (ts.map toD)), none, none, none, none, none]) ?_ ?_
    · cases plain with
      | true =>
        walk_at "vc"
        exact ⟨rfl, rfl, [.text "m", .text "n"], by simp [n5], by simp, by simp, rfl⟩
      | false =>
        walk_at "vc"
        exact ⟨rfl, rfl, n5.U, fun t h => h, by simp [n5], by simp [n5], rfl⟩
    rintro e M2 ⟨rfl, ts, ht1, ht2, ht3, rfl⟩
    refine Vc.seqC (R := fun e M3 => M3 = M2 ∧ ∃ ss : List NestedKey, (∀ t ∈ ss, t ∈ n5.S) ∧ ss ≠ [] ∧ ss.length ≤ 5 ∧ e = [some (.ref i), some (.bl plain), some (.lst (n5.U.map toD)), some (.lst (ts.map toD)), some (.lst (ss.map toD)), none, none, none, none]) ?_ ?_
    · cases plain with
      | true =>
        walk_at "vc"
        exact ⟨rfl, rfl, [.text "a", .text "b"], by simp [n5], by simp, by simp, rfl⟩
      | false =>
        walk_at "vc"
        exact ⟨rfl, rfl, [.text "a", .text "b", .text "a", .text "b", .none], by simp [n5], by simp, by simp, rfl⟩
    rintro e M3 ⟨rfl, ss, hs1, hs2, hs3, rfl⟩
    obtain ⟨r0, M4, hr0, d0, e0⟩ := draw_h (IsSt.app hs (t := [some (Dt.lst [])])) (b := 8) (by decide) (by decide)
    walk_at "vc"
    refine Vc.loop (f := fun i : Nat => .int (i : Nat)) (xs := List.range r0) (fun pre e M5 => (∃ e6, e = [some (.ref i), some (.bl plain), some (.lst (n5.U.map toD)), some (.lst (ts.map toD)), some (.lst (ss.map toD)), some (.ref M3.length), e6, none, none]) ∧ Dx i M3 M5 ∧ ∃ es : List Ed, M5[M3.length]? = some (some (.lst (eds es))) ∧ EdIn n5 es ∧ es.length = pre.length) ?_ ?_ ?_
    · exact ⟨⟨_, rfl⟩, (Dx.refl hs).app.dr d0, [], getDr d0 (by omega) getL, ⟨by simp⟩, rfl⟩
    · rintro pre x post e M5 hx ⟨⟨e6, rfl⟩, hd, es, g, i1, i2⟩
      obtain ⟨rfl, hxl⟩ := range_pre hx
      refine ⟨trivial, ?_⟩
      obtain ⟨k1, M6, hk1, d1, q1⟩ := pick_h (ks := n5.U) hd.st (by simp [n5]) (by simp [n5])
      obtain ⟨k2, M7, hk2, d2, q2⟩ := pick_h (ks := ss) d1.st hs2 (by omega)
      obtain ⟨k3, M8, hk3, d3, q3⟩ := pick_h (ks := ts) d2.st ht2 (by omega)
      have dall := d1.trans (d2.trans d3)
      have g8 := getDr dall (by omega) g
      have hel : (eds es).length < 100000 := by unfold eds; rw [List.length_map]; omega
      walk_at "vc"
      refine ⟨⟨_, rfl⟩, (hd.dr dall).set (Nat.le_refl _) hi, es ++ [(k1, k2, k3)], ?_, ⟨fun e he => ?_⟩, by rw [List.length_append, List.length_append, i2]; rfl⟩
      · rw [getS g8]
        unfold eds
        rw [List.map_append]
        rfl
      · rcases List.mem_append.mp he with he | he
        · exact i1.mem e he
        · rw [List.mem_singleton.mp he]
          exact ⟨hk1, hs1 _ hk2, ht1 _ hk3⟩
    · rintro e M5 ⟨⟨e6, rfl⟩, hd, es, g, i1, i2⟩
      rw [List.length_range] at i2
      refine ⟨trivial, ?_⟩
      walk_at "vc"
      refine Vc.lcInv (f := toD) (xs := n5.U) (fun pre acc M6 => Dr i M5 M6 ∧ ∃ F : List NestedKey, acc = F.map toD ∧ F.Sublist pre) (by simp [n5]) ⟨Dr.refl hd.st, [], rfl, List.nil_sublist _⟩ ?_ ?_
      · rintro pre n post acc M6 hx ⟨d1, F, rfl, hF⟩
        obtain ⟨r, M7, hr, d2, q2⟩ := draw_h d1.st (b := 3) (by decide) (by decide)
        refine ⟨trivial, ?_⟩
        walk_at "vc"
        refine br_d (fun h => ?_) (fun h => ?_)
        · walk_at "vc"
          exact ⟨d1.trans d2, F ++ [n], by rw [List.map_append]; rfl, hF.append (List.Sublist.refl _)⟩
        · exact ⟨d1.trans d2, F, rfl, hF.trans (List.sublist_append_left _ _)⟩
      · rintro acc M6 ⟨d1, F, rfl, hF⟩
        have g6 := getDr d1 (by omega) g
        have ho : F_law_once [.ref M3.length] M6 = some (.lst (eds (onceE es)), M6) := by
          have := law_once_ok (ks := es.map edK) (Walks.ref (by rw [← eds_map]; exact g6)) (fun k hk => by
            obtain ⟨e, he, rfl⟩ := List.mem_map.mp hk
            exact (edK_kz n5_ok (i1.mem e he)).1.toKx) (by rw [List.length_map]; omega)
          rw [once_eds, ← eds_map] at this
          exact this
        refine ⟨trivial, ?_⟩
        walk_at "vc"
        refine ⟨?_, hd.dr d1, fun M7 d7 => ⟨onceE es, F, rfl, d7, onceE_nodup es, ⟨fun e he => i1.mem e (mem_onceE.mp he)⟩, fun f hf => hF.subset hf, ?_, by have := onceE_len es; omega⟩⟩
        · have h1 := cl_tupD M3.length ((onceE es).map edK)
          have h2 := cl_tupD M3.length F
          rw [← eds_map] at h1
          simp only [DL.Cl, DL.Cls] at h1 h2 ⊢
          exact ⟨h1, h2, trivial⟩
        · exact List.Nodup.sublist hF (by decide +kernel)
  obtain ⟨d, M', h1, E, F, rfl, h2⟩ := main
  exact ⟨E, F, M', h1, h2⟩
/-! ### stacks -/
theorem law_stacks_ok {k : Nat} (hk : k ≤ 5) (M : Mem) : ∃ L : List (List NestedKey), F_law_stacks [.int (k : Nat)] M = some (.lst (L.map fun w => .tup (w.map toD)), M) ∧ (∀ w ∈ L, (∀ s ∈ w, s ∈ aS) ∧ w.length ≤ k) ∧ L ≠ [] ∧ L.length < 1000 := by
  have main : ∃ v, F_law_stacks [.int (k : Nat)] M = some (v, M) ∧ ∃ L : List (List NestedKey), v = .lst (L.map fun w => .tup (w.map toD)) ∧ (∀ w ∈ L, (∀ s ∈ w, s ∈ aS) ∧ w.length ≤ k) ∧ L ≠ [] ∧ L.length < 1000 := by
    refine pureEx ?_
    show WS (m_law_stacks [some (.int (k : Nat)), none, none, none, none] M) _
    unfold m_law_stacks
    walk_at "vc"
    refine Vc.loop (f := fun i : Nat => .int (i : Nat)) (xs := List.range k) (fun pre e M1 => ∃ V : List (List NestedKey), (∃ e3, e = [some (.int (k : Nat)), some (.ref M.length), some (.lst (V.map fun w => .tup (w.map toD))), e3, none]) ∧ Pfx M M1 ∧ (∀ w ∈ V, (∀ s ∈ w, s ∈ aS) ∧ w.length = pre.length) ∧ V.length = 2 ^ pre.length ∧
      ∃ L : List (List NestedKey), M1[M.length]? = some (some (.lst (L.map fun w => .tup (w.map toD)))) ∧ (∀ w ∈ L, (∀ s ∈ w, s ∈ aS) ∧ w.length ≤ pre.length) ∧ L ≠ [] ∧ L.length < 2 ^ (pre.length + 1)) ?_ ?_ ?_
    · exact ⟨[[]], ⟨_, rfl⟩, Pfx.refl.app, by simp, rfl, [[]], getL, by simp, by simp, by simp⟩
    · rintro pre x post e M1 hx ⟨V, ⟨e3, rfl⟩, hp, v1, v2, L, g, l1, l2, l3⟩
      obtain ⟨rfl, hxl⟩ := range_pre hx
      have hpow : 2 ^ pre.length ≤ 2 ^ 5 := Nat.pow_le_pow_right (by decide) (by omega)
      have hpow2 : 2 ^ (pre.length + 1) = 2 * 2 ^ pre.length := by rw [Nat.pow_succ, Nat.mul_comm]
      have hpow3 : 2 ^ (pre.length + 1 + 1) = 4 * 2 ^ pre.length := by rw [Nat.pow_succ, Nat.pow_succ]; omega
      refine ⟨trivial, ?_⟩
      have one : ∀ (z : Str), (NestedKey.text z) ∈ aS → ∀ (Q : List Dt → Mem → Prop) (e0 : Sl), e0.length = 5 → Q ((V.map fun w => w ++ [NestedKey.text z]).map fun w => .tup (w.map toD)) M1 → Wp (lcL (fun _ => True) (.one 4) yesT (opE (pure2 addD) (varE 4) (tupE (consA (cE (.str z)) nilA))) e0 (V.map fun w => .tup (w.map toD)) [] M1) Q := by
        intro z hz Q e0 he0 hQ
        refine Vc.lcMap (f := fun w : List NestedKey => .tup (w.map toD)) (xs := V) (fun w => .tup ((w ++ [NestedKey.text z]).map toD)) (by omega) trivial ?_ (by rw [List.map_map] at hQ; exact hQ)
        intro w hw
        have hwl : w.length ≤ 5 := by rw [(v1 w hw).2]; omega
        match e0, he0 with
        | [s0, s1, s2, s3, s4], _ =>
          walk_at "vc"
          exact ⟨by rw [List.map_append]; rfl, rfl⟩
      walk_at "vc"
      refine one "a" (by simp [aS]) _ _ rfl ?_
      walk_at "vc"
      refine one "b" (by simp [aS]) _ _ rfl ?_
      have hl1 : ((V.map fun w => w ++ [NestedKey.text "a"]).length) = V.length := List.length_map _
      have hl2 : ((V.map fun w => w ++ [NestedKey.text "b"]).length) = V.length := List.length_map _
      have hl3 : (L.map fun w : List NestedKey => Dt.tup (w.map toD)).length = L.length := List.length_map _
      have hl4 : (((V.map fun w => w ++ [NestedKey.text "a"]) ++ (V.map fun w => w ++ [NestedKey.text "b"])).map fun w : List NestedKey => Dt.tup (w.map toD)).length = 2 * V.length := by rw [List.length_map, List.length_append, hl1, hl2]; omega
      walk_at "vc"
      have e1 : (pre ++ [pre.length]).length = pre.length + 1 := by simp
      have hw : ∀ w ∈ (V.map fun w => w ++ [NestedKey.text "a"]) ++ (V.map fun w => w ++ [NestedKey.text "b"]), (∀ s ∈ w, s ∈ aS) ∧ w.length = pre.length + 1 := fun w hw => by
        rcases List.mem_append.mp hw with hw | hw
        · obtain ⟨u, hu, rfl⟩ := List.mem_map.mp hw
          obtain ⟨h1, h2⟩ := v1 u hu
          refine ⟨fun s hs => ?_, by rw [List.length_append, h2]; rfl⟩
          rcases List.mem_append.mp hs with hs | hs
          · exact h1 s hs
          · rw [List.mem_singleton.mp hs]; simp [aS]
        · obtain ⟨u, hu, rfl⟩ := List.mem_map.mp hw
          obtain ⟨h1, h2⟩ := v1 u hu
          refine ⟨fun s hs => ?_, by rw [List.length_append, h2]; rfl⟩
          rcases List.mem_append.mp hs with hs | hs
          · exact h1 s hs
          · rw [List.mem_singleton.mp hs]; simp [aS]
      refine ⟨_, ⟨_, rfl⟩, hp.set (Nat.le_refl _), by rw [e1]; exact hw, ?_, L ++ ((V.map fun w => w ++ [NestedKey.text "a"]) ++ (V.map fun w => w ++ [NestedKey.text "b"])), ?_, fun w h => ?_, by simp [l2], ?_⟩
      · rw [e1, List.length_append, hl1, hl2, v2]; omega
      · rw [getS g]
        simp only [List.map_append]
      · rw [e1]
        rcases List.mem_append.mp h with h | h
        · exact ⟨(l1 w h).1, by have := (l1 w h).2; omega⟩
        · exact ⟨(hw w h).1, by rw [(hw w h).2]; omega⟩
      · rw [e1, List.length_append, List.length_append, hl1, hl2]; omega
    · rintro e M1 ⟨V, ⟨e3, rfl⟩, hp, v1, v2, L, g, l1, l2, l3⟩
      rw [List.length_range] at l1 l3
      have hpow : 2 ^ (k + 1) ≤ 2 ^ 6 := Nat.pow_le_pow_right (by decide) (by omega)
      refine ⟨trivial, ?_⟩
      walk_at "vc"
      refine ⟨_, rfl, ⟨L, rfl, l1, l2, by omega⟩, ?_, hp.set (Nat.le_refl _)⟩
      have := cls_toD M.length (L.map NestedKey.tup)
      rw [List.map_map] at this
      have e2 : (L.map (toD ∘ NestedKey.tup)) = L.map fun w => Dt.tup (w.map toD) := List.map_congr_left fun w _ => by simp [toD_tup]
      rw [e2] at this
      exact this
  obtain ⟨v, h1, L, rfl, h2⟩ := main
  exact ⟨L, h1, h2⟩
end Sh
/-! The data layer, part md: plays. -/
namespace Sh
open PySem PySem.Spec PyProof.Rows L2 DL Ev Vc
/-- one step of a play -/
def StepR (rs : List Ru) (p : NestedKey) (w : List NestedKey) (q : NestedKey) (v : List NestedKey) : Prop := ∃ r ∈ rs, r.p = p ∧ ∃ u, w = r.s :: u ∧ q = r.q ∧ v = r.w ++ u
inductive ReachR (rs : List Ru) : NestedKey → List NestedKey → NestedKey → List NestedKey → Prop
  | refl (p : NestedKey) (w : List NestedKey) : ReachR rs p w p w
  | step {p q q' : NestedKey} {w v v' : List NestedKey} : ReachR rs p w q v → StepR rs q v q' v' → ReachR rs p w q' v'
/-- a configuration with states and symbols of the laws -/
structure CfOk (p : NestedKey) (w : List NestedKey) : Prop where
  p : p ∈ stN
  w : ∀ s ∈ w, s ∈ aS
theorem step_ok {rs : List Ru} (hR : ∀ r ∈ rs, RuOk r) {p q : NestedKey} {w v : List NestedKey} (h : StepR rs p w q v) (hc : CfOk p w) : CfOk q v ∧ v.length ≤ w.length + 1 := by
  obtain ⟨r, hr, rfl, u, rfl, rfl, rfl⟩ := h
  refine ⟨⟨(hR r hr).q, fun s hs => ?_⟩, by rw [List.length_append, List.length_cons]; have := (hR r hr).l; omega⟩
  rcases List.mem_append.mp hs with hs | hs
  · exact (hR r hr).w s hs
  · exact hc.w s (List.mem_cons_of_mem _ hs)
theorem aS_kz {k : NestedKey} (h : k ∈ aS) : Kz k ∧ k.depth = 0 := n5_ok.sn k (aS_in h)
theorem stN_kz {k : NestedKey} (h : k ∈ stN) : Kz k ∧ k.depth = 0 := ⟨(n5_ok.un k (stN_in h)).1, by
  simp only [stN, List.mem_cons, List.not_mem_nil, or_false] at h
  rcases h with rfl | rfl | rfl <;> rfl⟩
def cfK (c : NestedKey × List NestedKey) : NestedKey := .tup [c.1, .tup c.2]
theorem cfK_inj {a b : NestedKey × List NestedKey} (h : cfK a = cfK b) : a = b := by
  unfold cfK at h
  injection h with h
  injection h with h1 h
  injection h with h2
  injection h2 with h2
  exact Prod.ext h1 h2
theorem toD_cfK (c : NestedKey × List NestedKey) : toD (cfK c) = cfgD c.1 c.2 := by unfold cfK cfgD; simp only [toD, toDs, toDs_map]
theorem stack_kx {w : List NestedKey} (h : ∀ s ∈ w, s ∈ aS) : Kx (.tup w) := by
  refine ⟨by rw [txK]; exact txKs_iff.mpr fun k hk => (aS_kz (h k hk)).1.tx, ?_⟩
  rw [NestedKey.depth]
  have := depthAll_le.mpr fun k hk => Nat.le_of_eq (aS_kz (h k hk)).2
  omega
theorem stack_dep {w : List NestedKey} (h : ∀ s ∈ w, s ∈ aS) : (NestedKey.tup w).depth ≤ 1 := by
  rw [NestedKey.depth]
  have := depthAll_le.mpr fun k hk => Nat.le_of_eq (aS_kz (h k hk)).2
  omega
theorem cfK_kx {c : NestedKey × List NestedKey} (h : CfOk c.1 c.2) : Kx (cfK c) := by
  refine ⟨?_, ?_⟩
  · unfold cfK
    rw [txK]
    refine txKs_iff.mpr fun k hk => ?_
    simp only [List.mem_cons, List.not_mem_nil, or_false] at hk
    rcases hk with rfl | rfl
    · exact (stN_kz h.p).1.tx
    · exact (stack_kx h.w).tx
  · unfold cfK
    have h1 := (stN_kz h.p).2
    have h2 := stack_dep h.w
    simp only [NestedKey.depth, NestedKey.depthAll] at h2 ⊢
    omega
theorem slTake1 {M : Mem} {ds : List Dt} {P : Dt → Prop} (h : P (.tup (ds.take 1))) : Get (slD M (.tup ds) none (some 1)) P := ⟨_, by
  show some (Dt.tup (cutL ds none (some 1))) = _
  congr 2
  cases ds with
  | nil => rfl
  | cons d ds => simp [cutL, HT.sIx], h⟩
theorem slDrop1 {M : Mem} {ds : List Dt} {P : Dt → Prop} (h : P (.tup (ds.drop 1))) : Get (slD M (.tup ds) (some 1) none) P := ⟨_, by
  show some (Dt.tup (cutL ds (some 1) none)) = _
  congr 2
  cases ds with
  | nil => rfl
  | cons d ds => simp [cutL, HT.sIx], h⟩
def nxD (x : Nat × NestedKey × List NestedKey) : Dt := .tup [.int (x.1 : Nat), cfgD x.2.1 x.2.2]
theorem cl_cfgD (n : Nat) (p : NestedKey) (w : List NestedKey) : DL.Cl n (cfgD p w) := by rw [← toD_cfK (p, w)]; exact cl_toD n _
theorem law_next_ok {rs : List Ru} (hR : ∀ r ∈ rs, RuOk r) (hl : rs.length ≤ 100) {p : NestedKey} {w : List NestedKey} (hpk : Kx p) (hcw : ∀ s ∈ w, s ∈ aS) (hwl : w.length ≤ 1000) (M : Mem) :
    ∃ L : List (Nat × NestedKey × List NestedKey), F_law_next [.tup (rus rs), cfgD p w] M = some (.lst (L.map nxD), M) ∧ L.length ≤ rs.length ∧ ∀ x ∈ L, StepR rs p w x.2.1 x.2.2 := by
  have main : ∃ v, F_law_next [.tup (rus rs), cfgD p w] M = some (v, M) ∧ ∃ L : List (Nat × NestedKey × List NestedKey), v = .lst (L.map nxD) ∧ L.length ≤ rs.length ∧ ∀ x ∈ L, StepR rs p w x.2.1 x.2.2 := by
    refine pureEx ?_
    show WS (m_law_next [some (.tup (rus rs)), some (cfgD p w), none, none, none, none, none, none, none] M) _
    unfold m_law_next cfgD
    have hrl : (rus rs).length = rs.length := List.length_map _
    walk_at "vc"
    refine Vc.loop (f := fun i : Nat => .int (i : Nat)) (xs := List.range (rus rs).length) (fun pre e M1 => (∃ e3 e4 e5 e6 e7 e8, e = [some (.tup (rus rs)), some (.tup [toD p, .tup (w.map toD)]), some (.ref M.length), e3, e4, e5, e6, e7, e8]) ∧ Pfx M M1 ∧ ∃ L : List (Nat × NestedKey × List NestedKey), M1[M.length]? = some (some (.lst (L.map nxD))) ∧ L.length ≤ pre.length ∧ ∀ x ∈ L, StepR rs p w x.2.1 x.2.2) ?_ ?_ ?_
    · exact ⟨⟨_, _, _, _, _, _, rfl⟩, Pfx.refl.app, [], getL, Nat.le_refl _, by simp⟩
    · rintro pre x post e M1 hx ⟨⟨e3, e4, e5, e6, e7, e8, rfl⟩, hp, L, g, i1, i2⟩
      obtain ⟨rfl, hxl⟩ := range_pre hx
      rw [hrl] at hxl
      obtain ⟨r, hr⟩ : ∃ r, rs[pre.length]? = some r := ⟨_, List.getElem?_eq_getElem hxl⟩
      have hrm := List.mem_of_getElem? hr
      have hro := hR r hrm
      have hri : (rus rs)[pre.length]? = some (.tup [toD r.p, toD r.s, toD r.q, .tup (r.w.map toD), .int r.m]) := by
        unfold rus
        rw [List.getElem?_map, hr]
        simp only [Option.map_some, ruK, toD, toDs, toDs_map]
      have h1 : ∀ M', eqO M' (toD p) (toD r.p) = some (decide (p = r.p)) := fun M' => eqO_k hpk (stN_kz hro.p).1.toKx
      have h2 : ∀ M', eqO M' (.tup ((w.map toD).take 1)) (.tup [toD r.s]) = some (decide (w.take 1 = [r.s])) := fun M' => by
        have := eqO_k (M := M') (a := .tup (w.take 1)) (b := .tup [r.s]) (stack_kx fun s hs => hcw s (List.mem_of_mem_take hs)) (stack_kx fun s hs => by rw [List.mem_singleton.mp hs]; exact hro.s)
        rw [toD_tup, toD_tup, List.map_take] at this
        refine this.trans ?_
        congr 1
        by_cases h : w.take 1 = [r.s]
        · rw [decide_eq_true h, decide_eq_true (by rw [h])]
        · rw [decide_eq_false h, decide_eq_false fun z => h (by injection z)]
      have hll : (L.map nxD).length < 100000 := by rw [List.length_map]; omega
      have h1' := h1 M1
      have h2' := h2 M1
      refine ⟨trivial, ?_⟩
      have e1 : (pre ++ [pre.length]).length = pre.length + 1 := by simp
      rw [e1]
      cases hd : decide (p = r.p) with
      | false =>
        rw [hd] at h1'
        walk_at "vc"
        exact ⟨⟨_, _, _, _, _, _, rfl⟩, hp, L, g, by omega, i2⟩
      | true =>
        rw [hd] at h1'
        walk_at "vc"
        refine slTake1 ?_
        cases hd2 : decide (w.take 1 = [r.s]) with
        | false =>
          rw [hd2] at h2'
          walk_at "vc"
          exact ⟨⟨_, _, _, _, _, _, rfl⟩, hp, L, g, by omega, i2⟩
        | true =>
          rw [hd2] at h2'
          have hw0 := of_decide_eq_true hd2
          obtain ⟨u, rfl⟩ : ∃ u, w = r.s :: u := by
            cases w with
            | nil => simp at hw0
            | cons a u => simp at hw0; exact ⟨u, by rw [hw0]⟩
          walk_at "vc"
          refine slDrop1 ?_
          rw [List.map_cons, List.drop_one, List.tail_cons]
          have hwl2 : r.w.length ≤ 2 := hro.l
          rw [List.length_cons] at hwl
          walk_at "vc"
          refine ⟨⟨_, _, _, _, _, _, rfl⟩, hp.set (Nat.le_refl _), L ++ [(pre.length, r.q, r.w ++ u)], ?_, by rw [List.length_append, List.length_singleton]; omega, fun x hx => ?_⟩
          · rw [getS g, List.map_append]
            simp only [List.map_cons, List.map_nil, nxD, cfgD, List.map_append]
          · rcases List.mem_append.mp hx with hx | hx
            · exact i2 x hx
            · rw [List.mem_singleton.mp hx]
              exact ⟨r, hrm, (of_decide_eq_true hd).symm, u, rfl, rfl, rfl⟩
    · rintro e M1 ⟨⟨e3, e4, e5, e6, e7, e8, rfl⟩, hp, L, g, i1, i2⟩
      rw [List.length_range, hrl] at i1
      refine ⟨trivial, ?_⟩
      walk_at "vc"
      refine ⟨_, rfl, ⟨L, rfl, i1, i2⟩, ?_, hp.set (Nat.le_refl _)⟩
      have := cls_toD M.length (L.map fun x => .tup [.num (x.1 : Nat), cfK x.2])
      rw [List.map_map] at this
      have e2 : (L.map (toD ∘ fun x => NestedKey.tup [.num (x.1 : Nat), cfK x.2])) = L.map nxD := List.map_congr_left fun x _ => by
        show toD (.tup [.num (x.1 : Nat), cfK x.2]) = _
        simp only [toD, toDs, toD_cfK, nxD]
      rw [e2] at this
      exact this
  obtain ⟨v, h1, L, rfl, h2⟩ := main
  exact ⟨L, h1, h2⟩
def cfs (K : List (NestedKey × List NestedKey)) : List Dt := K.map fun c => cfgD c.1 c.2
theorem cfs_map (K : List (NestedKey × List NestedKey)) : cfs K = (K.map cfK).map toD := by
  unfold cfs
  rw [List.map_map]
  exact List.map_congr_left fun c _ => (toD_cfK c).symm
theorem law_reached_ok {rs : List Ru} (hR : ∀ r ∈ rs, RuOk r) (hl : rs.length ≤ 100) {p : NestedKey} {w : List NestedKey} (hc : CfOk p w) (hwl : w.length ≤ 100) {most : Nat} (hm : most ≤ 100) (M : Mem) :
    ∃ K : List (NestedKey × List NestedKey), F_law_reached [.tup (rus rs), cfgD p w, .int (most : Nat)] M = some (.lst (cfs K), M) ∧ K.length ≤ 60 ∧ ∀ c ∈ K, ReachR rs p w c.1 c.2 ∧ CfOk c.1 c.2 ∧ c.2.length ≤ 300 := by
  have main : ∃ v, F_law_reached [.tup (rus rs), cfgD p w, .int (most : Nat)] M = some (v, M) ∧ ∃ K : List (NestedKey × List NestedKey), v = .lst (cfs K) ∧ K.length ≤ 60 ∧ ∀ c ∈ K, ReachR rs p w c.1 c.2 ∧ CfOk c.1 c.2 ∧ c.2.length ≤ 300 := by
    refine pureEx ?_
    show WS (m_law_reached [some (.tup (rus rs)), some (cfgD p w), some (.int (most : Nat)), none, none, none, none, none, none, none] M) _
    unfold m_law_reached
    walk_at "vc"
    refine Vc.loop (f := fun i : Nat => .int (i : Nat)) (xs := List.range most) (fun pre e M1 => (∃ d4 e5 e6 e7 e8 e9, e = [some (.tup (rus rs)), some (cfgD p w), some (.int (most : Nat)), some (.ref M.length), some d4, e5, e6, e7, e8, e9] ∧ ∃ V : List (NestedKey × List NestedKey), V.length ≤ 60 ∧ (∀ c ∈ V, ReachR rs p w c.1 c.2 ∧ CfOk c.1 c.2 ∧ c.2.length ≤ 100 + pre.length) ∧ (d4 = .lst (cfs V) ∨ ∃ j, d4 = .ref j ∧ M.length < j ∧ M1[j]? = some (some (.lst (cfs V))))) ∧ Pfx M M1 ∧
      ∃ K : List (NestedKey × List NestedKey), M1[M.length]? = some (some (.lst (cfs K))) ∧ K.length ≤ 60 ∧ ∀ c ∈ K, ReachR rs p w c.1 c.2 ∧ CfOk c.1 c.2 ∧ c.2.length ≤ 100 + pre.length) ?_ ?_ ?_
    · refine ⟨⟨.lst (cfs [(p, w)]), _, _, _, _, _, rfl, [(p, w)], by simp, ?_, .inl rfl⟩, Pfx.refl.app, [(p, w)], getL, by simp, ?_⟩
      · intro c hcc
        rw [List.mem_singleton.mp hcc]
        exact ⟨.refl _ _, hc, by dsimp only; omega⟩
      · intro c hcc
        rw [List.mem_singleton.mp hcc]
        exact ⟨.refl _ _, hc, by dsimp only; omega⟩
    · rintro pre x post e M1 hx ⟨⟨d4, e5, e6, e7, e8, e9, rfl, V, v1, v2, v3⟩, hp, K, g, k1, k2⟩
      obtain ⟨rfl, hxl⟩ := range_pre hx
      have hml := cell_lt g
      refine ⟨trivial, ?_⟩
      refine Vc.nameG' (Vc.seqC (R := fun e M2 => M2 = M1 ++ [some (Dt.lst [])] ∧ e = [some (.tup (rus rs)), some (cfgD p w), some (.int (most : Nat)), some (.ref M.length), some d4, some (.int (pre.length : Nat)), some (.ref M1.length), e7, e8, e9]) ?_ ?_)
      · walk_at "vc"
        exact ⟨rfl, rfl, rfl⟩
      rintro e M2 ⟨rfl, rfl⟩
      have e1 : (pre ++ [pre.length]).length = pre.length + 1 := by simp
      rw [e1]
      -- the walk along the level
      have hwalk : ∃ gd : Mem → Prop, itemsOf (M1 ++ [some (Dt.lst [])]) d4 = some ⟨cfs V, gd⟩ ∧ ∀ M3, (∀ j, d4 = .ref j → M3[j]? = M1[j]?) → gd M3 := by
        rcases v3 with rfl | ⟨j, rfl, hj, gj⟩
        · exact ⟨_, rfl, fun _ _ => trivial⟩
        · exact ⟨fun M3 => M3[j]? = some (some (.lst (cfs V))), by simp only [itemsOf, getA gj], fun M3 h => (h j rfl).trans gj⟩
      obtain ⟨gd, w1, w2⟩ := hwalk
      have hj : ∀ j, d4 = .ref j → M.length < j ∧ j < M1.length := fun j hj => by
        rcases v3 with h | ⟨j', h, hj2, gj⟩
        · rw [h] at hj; cases hj
        · rw [h] at hj; cases hj; exact ⟨hj2, cell_lt gj⟩
      have keep : ∀ {M3 : Mem} {c : Nat} {x : Option Dt}, (∀ j, d4 = .ref j → M3[j]? = M1[j]?) → (c = M.length ∨ c = M1.length) → ∀ j, d4 = .ref j → (M3.set c x)[j]? = M1[j]? := fun {M3 c x} h hcc j hj2 => by
        rw [List.getElem?_set_ne (by have := hj j hj2; omega)]
        exact h j hj2
      refine Vc.seqC (R := fun e M3 => (∃ e7 e8 e9, e = [some (.tup (rus rs)), some (cfgD p w), some (.int (most : Nat)), some (.ref M.length), some d4, some (.int (pre.length : Nat)), some (.ref M1.length), e7, e8, e9]) ∧ Pfx M M3 ∧ (∃ K : List (NestedKey × List NestedKey), M3[M.length]? = some (some (.lst (cfs K))) ∧ K.length ≤ 60 ∧ ∀ c ∈ K, ReachR rs p w c.1 c.2 ∧ CfOk c.1 c.2 ∧ c.2.length ≤ 100 + (pre.length + 1)) ∧
        ∃ W : List (NestedKey × List NestedKey), M3[M1.length]? = some (some (.lst (cfs W))) ∧ W.length ≤ 60 ∧ ∀ c ∈ W, ReachR rs p w c.1 c.2 ∧ CfOk c.1 c.2 ∧ c.2.length ≤ 100 + (pre.length + 1)) ?_ ?_
      · refine Vc.for' (Vc.seqI' (Vc.var rfl (.mk w1 ?_)))
        refine Vc.loop (f := fun c => cfgD c.1 c.2) (xs := V) (fun pr e M3 => (∃ e7 e8 e9, e = [some (.tup (rus rs)), some (cfgD p w), some (.int (most : Nat)), some (.ref M.length), some d4, some (.int (pre.length : Nat)), some (.ref M1.length), e7, e8, e9]) ∧ Pfx M M3 ∧ (∀ j, d4 = .ref j → M3[j]? = M1[j]?) ∧ ∃ K W : List (NestedKey × List NestedKey), M3[M.length]? = some (some (.lst (cfs K))) ∧ K.length ≤ 60 ∧ (∀ c ∈ K, ReachR rs p w c.1 c.2 ∧ CfOk c.1 c.2 ∧ c.2.length ≤ 100 + (pre.length + 1)) ∧
          M3[M1.length]? = some (some (.lst (cfs W))) ∧ W.length ≤ K.length ∧ ∀ c ∈ W, c ∈ K) ?_ ?_ ?_
        · refine ⟨⟨_, _, _, rfl⟩, hp.app, fun j hj2 => List.getElem?_append_left (hj j hj2).2, K, [], getA g, k1, fun c hcc => ⟨(k2 c hcc).1, (k2 c hcc).2.1, by have := (k2 c hcc).2.2; omega⟩, getL, Nat.zero_le _, by simp⟩
        · rintro pr ⟨q, v⟩ po e M3 hy ⟨⟨e7, e8, e9, rfl⟩, hp3, hj3, K3, W3, g3, a1, a2, g4, b1, b2⟩
          have hqv : (q, v) ∈ V := by rw [hy]; simp
          obtain ⟨hre, hcf, hvl⟩ := v2 _ hqv
          dsimp only at hre hcf hvl
          obtain ⟨L, q1, q2, q3⟩ := law_next_ok hR hl (stN_kz hcf.p).1.toKx hcf.w (by omega) M3
          refine ⟨w2 M3 hj3, ?_⟩
          walk_at "vc"
          refine Vc.loop (f := nxD) (xs := L) (fun pr2 e M4 => (∃ e8 e9, e = [some (.tup (rus rs)), some (cfgD p w), some (.int (most : Nat)), some (.ref M.length), some d4, some (.int (pre.length : Nat)), some (.ref M1.length), some (cfgD q v), e8, e9]) ∧ Pfx M M4 ∧ (∀ j, d4 = .ref j → M4[j]? = M1[j]?) ∧ ∃ K W : List (NestedKey × List NestedKey), M4[M.length]? = some (some (.lst (cfs K))) ∧ K.length ≤ 60 ∧ (∀ c ∈ K, ReachR rs p w c.1 c.2 ∧ CfOk c.1 c.2 ∧ c.2.length ≤ 100 + (pre.length + 1)) ∧
            M4[M1.length]? = some (some (.lst (cfs W))) ∧ W.length ≤ K.length ∧ ∀ c ∈ W, c ∈ K) ?_ ?_ ?_
          · exact ⟨⟨_, _, rfl⟩, hp3, hj3, K3, W3, g3, a1, a2, g4, b1, b2⟩
          · rintro pr2 ⟨m, q', v'⟩ po2 e M4 hz ⟨⟨e8, e9, rfl⟩, hp4, hj4, K4, W4, g5, c1, c2, g6, d1, d2⟩
            have hst := q3 (m, q', v') (by rw [hz]; simp)
            dsimp only at hst
            obtain ⟨hcf', hvl'⟩ := step_ok hR hst hcf
            have hin : inO M4 (cfgD q' v') (.ref M.length) = some (decide (cfK (q', v') ∈ K4.map cfK)) := by
              have := inO_kR (M := M4) (i := M.length) (a := cfK (q', v')) (ks := K4.map cfK) (by rw [← cfs_map]; exact g5) (cfK_kx hcf') fun k hk => by
                obtain ⟨c, hcc, rfl⟩ := List.mem_map.mp hk
                exact cfK_kx (c2 c hcc).2.1
              rw [toD_cfK] at this
              exact this
            have hkl : (cfs K4).length = K4.length := List.length_map _
            have hwl4 : (cfs W4).length = W4.length := List.length_map _
            refine ⟨trivial, ?_⟩
            show Wp (tupG 2 _ (.tup [.int (m : Nat), cfgD q' v']) _ _) _
            have stay : ∀ e8 e9 : Option Dt, (∃ e8_1 e9_1, [some (Dt.tup (rus rs)), some (cfgD p w), some (.int (most : Nat)), some (.ref M.length), some d4, some (.int (pre.length : Nat)), some (.ref M1.length), some (cfgD q v), e8, e9] = [some (Dt.tup (rus rs)), some (cfgD p w), some (.int (most : Nat)), some (.ref M.length), some d4, some (.int (pre.length : Nat)), some (.ref M1.length), some (cfgD q v), e8_1, e9_1]) ∧ Pfx M M4 ∧ (∀ j, d4 = .ref j → M4[j]? = M1[j]?) ∧ ∃ K W : List (NestedKey × List NestedKey), M4[M.length]? = some (some (.lst (cfs K))) ∧ K.length ≤ 60 ∧ (∀ c ∈ K, ReachR rs p w c.1 c.2 ∧ CfOk c.1 c.2 ∧ c.2.length ≤ 100 + (pre.length + 1)) ∧ M4[M1.length]? = some (some (.lst (cfs W))) ∧ W.length ≤ K.length ∧ ∀ c ∈ W, c ∈ K :=
              fun e8 e9 => ⟨⟨_, _, rfl⟩, hp4, hj4, K4, W4, g5, c1, c2, g6, d1, d2⟩
            by_cases hmem : cfK (q', v') ∈ K4.map cfK
            · rw [decide_eq_true hmem] at hin
              walk_at "vc"
              exact stay _ _
            · rw [decide_eq_false hmem] at hin
              by_cases h60 : K4.length < 60
              · walk_at "vc"
                refine ⟨⟨_, _, rfl⟩, (hp4.set (Nat.le_refl _)).set (by omega), keep (keep hj4 (.inl rfl)) (.inr rfl), K4 ++ [(q', v')], W4 ++ [(q', v')], ?_, by rw [List.length_append, List.length_singleton]; omega, fun c hcc => ?_, ?_, by rw [List.length_append, List.length_append]; simp; omega, fun c hcc => ?_⟩
                · rw [Vc.getN (by omega) (getS g5)]
                  unfold cfs
                  rw [List.map_append]
                  rfl
                · rcases List.mem_append.mp hcc with hcc | hcc
                  · exact c2 c hcc
                  · rw [List.mem_singleton.mp hcc]
                    exact ⟨.step hre hst, hcf', by dsimp only; omega⟩
                · rw [getS (Vc.getN (by omega) g6)]
                  unfold cfs
                  rw [List.map_append]
                  rfl
                · rcases List.mem_append.mp hcc with hcc | hcc
                  · exact List.mem_append_left _ (d2 c hcc)
                  · exact List.mem_append_right _ hcc
              · walk_at "vc"
                exact stay _ _
          · rintro e M4 ⟨⟨e8, e9, rfl⟩, hp4, hj4, K4, W4, g5, c1, c2, g6, d1, d2⟩
            exact ⟨trivial, ⟨_, _, _, rfl⟩, hp4, hj4, K4, W4, g5, c1, c2, g6, d1, d2⟩
        · rintro e M3 ⟨⟨e7, e8, e9, rfl⟩, hp3, hj3, K3, W3, g3, a1, a2, g4, b1, b2⟩
          exact ⟨w2 M3 hj3, rfl, ⟨_, _, _, rfl⟩, hp3, ⟨K3, g3, a1, a2⟩, W3, g4, by omega, fun c hcc => a2 c (b2 c hcc)⟩
      · rintro e M3 ⟨⟨e7, e8, e9, rfl⟩, hp3, ⟨K3, g3, a1, a2⟩, W3, g4, b1, b2⟩
        walk_at "vc"
        exact ⟨⟨_, _, _, _, _, _, rfl, W3, b1, b2, .inr ⟨_, rfl, hml, g4⟩⟩, hp3, K3, g3, a1, a2⟩
    · rintro e M1 ⟨⟨d4, e5, e6, e7, e8, e9, rfl, _⟩, hp, K, g, k1, k2⟩
      rw [List.length_range] at k2
      refine ⟨trivial, ?_⟩
      walk_at "vc"
      exact ⟨_, rfl, ⟨K, rfl, k1, fun c hcc => ⟨(k2 c hcc).1, (k2 c hcc).2.1, by have := (k2 c hcc).2.2; omega⟩⟩, by rw [cfs_map]; exact cls_toD _ _, hp.set (Nat.le_refl _)⟩
  obtain ⟨v, h1, K, rfl, h2⟩ := main
  exact ⟨K, h1, h2⟩
end Sh
namespace K05
open PySem PySem.Spec PyProof.Rows L2 DL
def top (i : Nat) : Stmt := PySem.Challenge.pw_everydepth_k05_stacks_accepted.main.body.getD i (.Pass ⟨0, 0, 0, 0⟩)
/-! ### the defs as plain functions (printed by gen.py) -/
abbrev s_Ways_add : Stmt := inClass (top 4) 1
abbrev N_Ways_add : List Str := ["self", "edge", "node", "symbol", "target"]
theorem sc_Ways_add : FnScope ["self", "edge", "node", "symbol", "target"] ["self", "edge"] (defScope s_Ways_add) := ⟨rfl, rfl, rfl, by decide +kernel, rfl, by decide +kernel, by decide +kernel⟩
noncomputable def m_Ways_add (C_Ways : Addr) : SM :=
    (seqS (ifS (blT (opE inD (varE 1) (fldE C_Ways "_edges" (varE 0)))) (rtS (cE (.bl false))) nxS)
    (seqS (asgS (cE (.bl true)) (subG (fldE C_Ways "_edges" (varE 0)) (varE 1)))
    (seqS (asgS (varE 1) (tupG 3 (consG (nameG 2) (consG (nameG 3) (consG (nameG 4) nilG)))))
    (seqS (exS (mtE isL appG (mtE isD sdG (fldE C_Ways "_to" (varE 0)) (consA (tupE (consA (varE 2) (consA (varE 3) nilA))) (consA (lstC nilA) nilA))) (consA (varE 4) nilA)))
    (rtS (cE (.bl true)))))))
noncomputable def F_Ways_add (C_Ways : Addr) : FM := (body 5 (m_Ways_add C_Ways))
abbrev s_Ways_init : Stmt := inClass (top 4) 0
abbrev N_Ways_init : List Str := ["self", "edges", "edge"]
theorem sc_Ways_init : FnScope ["self", "edges", "edge"] ["self", "edges"] (defScope s_Ways_init) := ⟨rfl, rfl, rfl, by decide +kernel, rfl, by decide +kernel, by decide +kernel⟩
noncomputable def m_Ways_init (C_Ways : Addr) : SM :=
    (seqS (fldS C_Ways "_edges" (varE 0) newDict)
    (seqS (fldS C_Ways "_to" (varE 0) newDict)
    (forS (seqI (varE 1)) (nameG 2) (exS (methE C_Ways "add" (F_Ways_add C_Ways) (varE 0) (consA (varE 2) nilA))))))
noncomputable def F_Ways_init (C_Ways : Addr) : FM := (body 3 (m_Ways_init C_Ways))
abbrev s_Ways_after : Stmt := inClass (top 4) 3
abbrev N_Ways_after : List Str := ["self", "nodes", "symbol", "found", "node", "target"]
theorem sc_Ways_after : FnScope ["self", "nodes", "symbol", "found", "node", "target"] ["self", "nodes", "symbol"] (defScope s_Ways_after) := ⟨rfl, rfl, rfl, by decide +kernel, rfl, by decide +kernel, by decide +kernel⟩
noncomputable def m_Ways_after (C_Ways : Addr) : SM :=
    (seqS (setS 3 newDict)
    (seqS (forS (seqI (varE 1)) (nameG 4) (forS (seqI (mtE isD getG (fldE C_Ways "_to" (varE 0)) (consA (tupE (consA (varE 4) (consA (varE 2) nilA))) (consA (lstE nilA) nilA)))) (nameG 5) (asgS (cE (.bl true)) (subG (varE 3) (varE 5)))))
    (rtS (callE listA (consA (varE 3) nilA)))))
noncomputable def F_Ways_after (C_Ways : Addr) : FM := cutF (body 6 (m_Ways_after C_Ways))
abbrev s_Ways_freely : Stmt := inClass (top 4) 4
abbrev N_Ways_freely : List Str := ["self", "nodes", "found", "waiting", "target", "node"]
theorem sc_Ways_freely : FnScope ["self", "nodes", "found", "waiting", "target", "node"] ["self", "nodes"] (defScope s_Ways_freely) := ⟨rfl, rfl, rfl, by decide +kernel, rfl, by decide +kernel, by decide +kernel⟩
noncomputable def m_Ways_freely (C_Ways : Addr) : SM :=
    (seqS (setS 2 (dgE (seqI (varE 1)) (.one 5) yesT (varE 5) (cE (.bl true)) [5]))
    (seqS (setS 3 (callE listB (consA (varE 1) nilA)))
    (seqS (whS (truT (varE 3)) (forS (seqI (methE C_Ways "after" (F_Ways_after C_Ways) (varE 0) (consA (lstE (consA (mtE isL popG (varE 3) nilA) nilA)) (consA (cE .non) nilA)))) (nameG 4) (ifS (blT (opE notInD (varE 4) (varE 2))) (seqS (asgS (cE (.bl true)) (subG (varE 2) (varE 4)))
    (exS (mtE isL appG (varE 3) (consA (varE 4) nilA)))) nxS)))
    (rtS (callE listA (consA (varE 2) nilA))))))
noncomputable def F_Ways_freely (C_Ways : Addr) : FM := cutF (body 6 (m_Ways_freely C_Ways))
abbrev s_Ways_along : Stmt := inClass (top 4) 5
abbrev N_Ways_along : List Str := ["self", "nodes", "symbols", "symbol"]
theorem sc_Ways_along : FnScope ["self", "nodes", "symbols", "symbol"] ["self", "nodes", "symbols"] (defScope s_Ways_along) := ⟨rfl, rfl, rfl, by decide +kernel, rfl, by decide +kernel, by decide +kernel⟩
noncomputable def m_Ways_along (C_Ways : Addr) : SM :=
    (seqS (forS (seqI (varE 2)) (nameG 3) (setS 1 (methE C_Ways "after" (F_Ways_after C_Ways) (varE 0) (consA (methE C_Ways "freely" (F_Ways_freely C_Ways) (varE 0) (consA (varE 1) nilA)) (consA (varE 3) nilA)))))
    (rtS (varE 1)))
noncomputable def F_Ways_along (C_Ways : Addr) : FM := cutF (body 4 (m_Ways_along C_Ways))
abbrev s_accepts : Stmt := top 5
abbrev N_accepts : List Str := ["machine", "configuration", "edges", "finals", "p", "stack", "ways", "node"]
theorem sc_accepts : FnScope ["machine", "configuration", "edges", "finals", "p", "stack", "ways", "node"] ["machine", "configuration"] (defScope s_accepts) := ⟨rfl, rfl, rfl, by decide +kernel, rfl, by decide +kernel, by decide +kernel⟩
noncomputable def m_accepts (C_Ways : Addr) : SM :=
    (seqS (asgS (varE 0) (tupG 2 (consG (nameG 2) (consG (nameG 3) nilG))))
    (seqS (asgS (varE 1) (tupG 2 (consG (nameG 4) (consG (nameG 5) nilG))))
    (seqS (setS 6 (makeE C_Ways (F_Ways_init C_Ways) (consA (varE 2) nilA)))
    (rtS (callE anyF (consA (lcE (seqI (methE C_Ways "freely" (F_Ways_freely C_Ways) (varE 6) (consA (methE C_Ways "along" (F_Ways_along C_Ways) (varE 6) (consA (lstE (consA (varE 4) nilA)) (consA (varE 5) nilA))) nilA))) (.one 7) yesT (opE inD (varE 7) (varE 3)) [7]) nilA))))))
noncomputable def F_accepts (C_Ways : Addr) : FM := cutF (body 8 (m_accepts C_Ways))
abbrev s_states_of : Stmt := top 6
abbrev N_states_of : List Str := ["rules", "states", "p", "_", "q"]
theorem sc_states_of : FnScope ["rules", "states", "p", "_", "q"] ["rules"] (defScope s_states_of) := ⟨rfl, rfl, rfl, by decide +kernel, rfl, by decide +kernel, by decide +kernel⟩
noncomputable def m_states_of : SM :=
    (seqS (setS 1 newDict)
    (seqS (forS (seqI (varE 0)) (tupG 5 (consG (nameG 2) (consG (nameG 3) (consG (nameG 4) (consG (nameG 3) (consG (nameG 3) nilG)))))) (seqS (asgS (cE (.bl true)) (subG (varE 1) (varE 2)))
    (asgS (cE (.bl true)) (subG (varE 1) (varE 4)))))
    (rtS (frzE (varE 1)))))
noncomputable def F_states_of : FM := cutF (body 5 (m_states_of))
abbrev s_is_plain : Stmt := top 7
abbrev N_is_plain : List Str := ["rules", "machine", "states", "_", "target"]
theorem sc_is_plain : FnScope ["rules", "machine", "states", "_", "target"] ["rules", "machine"] (defScope s_is_plain) := ⟨rfl, rfl, rfl, by decide +kernel, rfl, by decide +kernel, by decide +kernel⟩
noncomputable def m_is_plain : SM :=
    (seqS (setS 2 (callE F_states_of (consA (varE 0) nilA)))
    (rtS (unE notD (callE anyF (consA (lcE (seqI (opE ixA (varE 1) (cE (.int 0)))) (.many [3, 3, 4]) yesT (opE inD (varE 4) (varE 2)) [3, 4]) nilA)))))
noncomputable def F_is_plain : FM := cutF (body 5 (m_is_plain))
abbrev s_backward_edges : Stmt := top 8
abbrev N_backward_edges : List Str := ["rules", "ways", "edges", "p", "s", "q", "w", "_", "node"]
theorem sc_backward_edges : FnScope ["rules", "ways", "edges", "p", "s", "q", "w", "_", "node"] ["rules", "ways"] (defScope s_backward_edges) := ⟨rfl, rfl, rfl, by decide +kernel, rfl, by decide +kernel, by decide +kernel⟩
noncomputable def m_backward_edges (C_Ways : Addr) : SM :=
    (seqS (setS 2 (lstC nilA))
    (seqS (forS (seqI (varE 0)) (tupG 5 (consG (nameG 3) (consG (nameG 4) (consG (nameG 5) (consG (nameG 6) (consG (nameG 7) nilG)))))) (exS (mtE isL extG (varE 2) (consA (lcE (seqI (methE C_Ways "along" (F_Ways_along C_Ways) (varE 1) (consA (lstE (consA (varE 5) nilA)) (consA (varE 6) nilA)))) (.one 8) yesT (tupE (consA (varE 3) (consA (varE 4) (consA (varE 8) nilA)))) [8]) nilA))))
    (rtS (frzE (varE 2)))))
noncomputable def F_backward_edges (C_Ways : Addr) : FM := cutF (body 9 (m_backward_edges C_Ways))
abbrev s_takes_backwards : Stmt := top 9
abbrev N_takes_backwards : List Str := ["rules", "machine", "edges", "_", "edge"]
theorem sc_takes_backwards : FnScope ["rules", "machine", "edges", "_", "edge"] ["rules", "machine"] (defScope s_takes_backwards) := ⟨rfl, rfl, rfl, by decide +kernel, rfl, by decide +kernel, by decide +kernel⟩
noncomputable def m_takes_backwards (C_Ways : Addr) : SM :=
    (seqS (asgS (varE 1) (tupG 2 (consG (nameG 2) (consG (nameG 3) nilG))))
    (rtS (callE allF (consA (lcE (seqI (callE (F_backward_edges C_Ways) (consA (varE 0) (consA (makeE C_Ways (F_Ways_init C_Ways) (consA (varE 2) nilA)) nilA)))) (.one 4) yesT (opE inD (varE 4) (varE 2)) [4]) nilA))))
noncomputable def F_takes_backwards (C_Ways : Addr) : FM := cutF (body 5 (m_takes_backwards C_Ways))
abbrev s_is_followed : Stmt := top 10
abbrev N_is_followed : List Str := ["ways", "rule", "node", "_", "q", "w", "reached"]
theorem sc_is_followed : FnScope ["ways", "rule", "node", "_", "q", "w", "reached"] ["ways", "rule", "node"] (defScope s_is_followed) := ⟨rfl, rfl, rfl, by decide +kernel, rfl, by decide +kernel, by decide +kernel⟩
noncomputable def m_is_followed (C_Ways : Addr) : SM :=
    (seqS (asgS (varE 1) (tupG 5 (consG (nameG 3) (consG (nameG 3) (consG (nameG 4) (consG (nameG 5) (consG (nameG 3) nilG)))))))
    (seqS (setS 6 (ifE (notT (truT (varE 5))) (methE C_Ways "freely" (F_Ways_freely C_Ways) (varE 0) (consA (lstE (consA (varE 4) nilA)) nilA)) (methE C_Ways "along" (F_Ways_along C_Ways) (varE 0) (consA (lstE (consA (varE 4) nilA)) (consA (varE 5) nilA)))))
    (rtS (opE inD (varE 2) (varE 6)))))
noncomputable def F_is_followed (C_Ways : Addr) : FM := cutF (body 7 (m_is_followed C_Ways))
abbrev s_takes_forwards : Stmt := top 11
abbrev N_takes_forwards : List Str := ["rules", "machine", "ways", "rule", "node"]
theorem sc_takes_forwards : FnScope ["rules", "machine", "ways", "rule", "node"] ["rules", "machine"] (defScope s_takes_forwards) := ⟨rfl, rfl, rfl, by decide +kernel, rfl, by decide +kernel, by decide +kernel⟩
noncomputable def m_takes_forwards (C_Ways : Addr) : SM :=
    (seqS (setS 2 (makeE C_Ways (F_Ways_init C_Ways) (consA (opE ixA (varE 1) (cE (.int 0))) nilA)))
    (seqS (forS (seqI (varE 0)) (nameG 3) (forS (seqI (methE C_Ways "along" (F_Ways_along C_Ways) (varE 2) (consA (lstE (consA (opE ixA (varE 3) (cE (.int 0))) nilA)) (consA (tupE (consA (opE ixA (varE 3) (cE (.int 1))) nilA)) nilA)))) (nameG 4) (ifS (notT (truT (callE (F_is_followed C_Ways) (consA (varE 2) (consA (varE 3) (consA (varE 4) nilA)))))) (rtS (cE (.bl false))) nxS)))
    (rtS (cE (.bl true)))))
noncomputable def F_takes_forwards (C_Ways : Addr) : FM := cutF (body 5 (m_takes_forwards C_Ways))
abbrev s_law_start : Stmt := top 13
abbrev N_law_start : List Str := ["script", "cell"]
theorem sc_law_start : FnScope ["script", "cell"] ["script"] (defScope s_law_start) := ⟨rfl, rfl, rfl, by decide +kernel, rfl, by decide +kernel, by decide +kernel⟩
noncomputable def m_law_start : SM :=
    (rtS (dispE [((cE (.str "cells")), (lcE (seqI (varE 0)) (.one 1) yesT (callE (pureF absF) (consA (callE (pureF intF) (consA (varE 1) nilA)) nilA)) [1])), ((cE (.str "at")), (cE (.int 0))), ((cE (.str "left")), (cE (.int 0))), ((cE (.str "mix")), (opE (pure2 addD) (cE (.int 7)) (callE lenF (consA (varE 0) nilA))))]))
noncomputable def F_law_start : FM := (body 2 (m_law_start))
abbrev s_law_draw : Stmt := top 14
abbrev N_law_draw : List Str := ["state", "bound", "cell", "number"]
theorem sc_law_draw : FnScope ["state", "bound", "cell", "number"] ["state", "bound"] (defScope s_law_draw) := ⟨rfl, rfl, rfl, by decide +kernel, rfl, by decide +kernel, by decide +kernel⟩
noncomputable def m_law_draw : SM :=
    (seqS (ifS (andT (blT (opE eqD (opE ixA (varE 0) (cE (.str "left"))) (cE (.int 0)))) (blT (opE ltD (opE ixA (varE 0) (cE (.str "at"))) (callE lenF (consA (opE ixA (varE 0) (cE (.str "cells"))) nilA))))) (seqS (setS 2 (opE ixA (opE ixA (varE 0) (cE (.str "cells"))) (opE ixA (varE 0) (cE (.str "at")))))
    (seqS (asgS (opE (pure2 addD) (opE ixA (varE 0) (cE (.str "at"))) (cE (.int 1))) (subG (varE 0) (cE (.str "at"))))
    (seqS (asgS (opE (pure2 fmodD) (callE (pureF intF) (consA (opE (pure2 addD) (opE (pure2 addD) (opE (pure2 mulD) (opE ixA (varE 0) (cE (.str "mix"))) (cE (.int 48271))) (varE 2)) (cE (.int 11))) nilA)) (cE (.int 2147483647))) (subG (varE 0) (cE (.str "mix"))))
    (seqS (ifS (blT (opE ltD (varE 2) (opE (pure2 powD) (cE (.int 10)) (cE (.int 18))))) (rtS (opE (pure2 fmodD) (callE (pureF intF) (consA (varE 2) nilA)) (varE 1))) nxS)
    (asgS (varE 2) (subG (varE 0) (cE (.str "left")))))))) nxS)
    (seqS (ifS (blT (opE (pure2 gtI) (opE ixA (varE 0) (cE (.str "left"))) (cE (.int 0)))) (seqS (setS 3 (opE (pure2 fmodD) (callE (pureF intF) (consA (opE ixA (varE 0) (cE (.str "left"))) nilA)) (varE 1)))
    (seqS (asgS (opE (pure2 fdivD) (opE ixA (varE 0) (cE (.str "left"))) (varE 1)) (subG (varE 0) (cE (.str "left"))))
    (rtS (varE 3)))) nxS)
    (seqS (asgS (opE (pure2 fmodD) (callE (pureF intF) (consA (opE (pure2 addD) (opE (pure2 mulD) (opE ixA (varE 0) (cE (.str "mix"))) (cE (.int 48271))) (cE (.int 11))) nilA)) (cE (.int 2147483647))) (subG (varE 0) (cE (.str "mix"))))
    (rtS (opE (pure2 fmodD) (callE (pureF intF) (consA (opE (pure2 fmodD) (callE (pureF intF) (consA (opE (pure2 addD) (opE (pure2 mulD) (opE ixA (varE 0) (cE (.str "mix"))) (cE (.int 69621))) (cE (.int 5))) nilA)) (cE (.int 2147483629))) nilA)) (varE 1))))))
noncomputable def F_law_draw : FM := cutF (body 4 (m_law_draw))
abbrev s_law_pick : Stmt := top 15
abbrev N_law_pick : List Str := ["state", "things"]
theorem sc_law_pick : FnScope ["state", "things"] ["state", "things"] (defScope s_law_pick) := ⟨rfl, rfl, rfl, by decide +kernel, rfl, by decide +kernel, by decide +kernel⟩
noncomputable def m_law_pick : SM :=
    (rtS (opE ixA (varE 1) (callE F_law_draw (consA (varE 0) (consA (callE lenF (consA (varE 1) nilA)) nilA)))))
noncomputable def F_law_pick : FM := cutF (body 2 (m_law_pick))
abbrev s_law_is : Stmt := top 16
abbrev N_law_is : List Str := ["actual", "due"]
theorem sc_law_is : FnScope ["actual", "due"] ["actual", "due"] (defScope s_law_is) := ⟨rfl, rfl, rfl, by decide +kernel, rfl, by decide +kernel, by decide +kernel⟩
noncomputable def m_law_is : SM :=
    (rtS (andE (callE isiF (consA (varE 0) (consA (cE (.ty "bool")) nilA))) (opE eqD (varE 0) (varE 1))))
noncomputable def F_law_is : FM := cutF (body 2 (m_law_is))
abbrev s_law_once : Stmt := top 17
abbrev N_law_once : List Str := ["things", "kept", "thing"]
theorem sc_law_once : FnScope ["things", "kept", "thing"] ["things"] (defScope s_law_once) := ⟨rfl, rfl, rfl, by decide +kernel, rfl, by decide +kernel, by decide +kernel⟩
noncomputable def m_law_once : SM :=
    (seqS (setS 1 (lstC nilA))
    (seqS (forS (seqI (varE 0)) (nameG 2) (ifS (blT (opE notInD (varE 2) (varE 1))) (exS (mtE isL appG (varE 1) (consA (varE 2) nilA))) nxS))
    (rtS (frzE (varE 1)))))
noncomputable def F_law_once : FM := cutF (body 3 (m_law_once))
abbrev s_law_pushdown : Stmt := top 18
abbrev N_law_pushdown : List Str := ["state", "rules", "k", "w", "j"]
theorem sc_law_pushdown : FnScope ["state", "rules", "k", "w", "j"] ["state"] (defScope s_law_pushdown) := ⟨rfl, rfl, rfl, by decide +kernel, rfl, by decide +kernel, by decide +kernel⟩
noncomputable def m_law_pushdown : SM :=
    (seqS (setS 1 (lstC nilA))
    (seqS (forS (rngI (consA (opE (pure2 addD) (cE (.int 1)) (callE F_law_draw (consA (varE 0) (consA (cE (.int 8)) nilA)))) nilA)) (nameG 2) (seqS (setS 3 (callE tupleF (consA (lcE (rngI (consA (callE F_law_pick (consA (varE 0) (consA (lstE (consA (cE (.int 0)) (consA (cE (.int 0)) (consA (cE (.int 1)) (consA (cE (.int 2)) (consA (cE (.int 2)) nilA)))))) nilA))) nilA)) (.one 4) yesT (callE F_law_pick (consA (varE 0) (consA (lstE (consA (cE (.str "a")) (consA (cE (.str "b")) nilA))) nilA))) [4]) nilA)))
    (exS (mtE isL appG (varE 1) (consA (tupE (consA (callE F_law_draw (consA (varE 0) (consA (cE (.int 3)) nilA))) (consA (callE F_law_pick (consA (varE 0) (consA (lstE (consA (cE (.str "a")) (consA (cE (.str "b")) nilA))) nilA))) (consA (callE F_law_draw (consA (varE 0) (consA (cE (.int 3)) nilA))) (consA (varE 3) (consA (callE (pureF intF) (consA (opE eqD (callE F_law_draw (consA (varE 0) (consA (cE (.int 3)) nilA))) (cE (.int 0))) nilA)) nilA)))))) nilA)))))
    (rtS (callE tupleF (consA (varE 1) nilA)))))
noncomputable def F_law_pushdown : FM := cutF (body 5 (m_law_pushdown))
abbrev s_law_next : Stmt := top 19
abbrev N_law_next : List Str := ["rules", "configuration", "found", "k", "p", "s", "q", "w", "mark"]
theorem sc_law_next : FnScope ["rules", "configuration", "found", "k", "p", "s", "q", "w", "mark"] ["rules", "configuration"] (defScope s_law_next) := ⟨rfl, rfl, rfl, by decide +kernel, rfl, by decide +kernel, by decide +kernel⟩
noncomputable def m_law_next : SM :=
    (seqS (setS 2 (lstC nilA))
    (seqS (forS (rngI (consA (callE lenF (consA (varE 0) nilA)) nilA)) (nameG 3) (seqS (asgS (opE ixA (varE 0) (varE 3)) (tupG 5 (consG (nameG 4) (consG (nameG 5) (consG (nameG 6) (consG (nameG 7) (consG (nameG 8) nilG)))))))
    (ifS (andT (blT (opE eqD (opE ixA (varE 1) (cE (.int 0))) (varE 4))) (blT (opE eqD (slE (opE ixA (varE 1) (cE (.int 1))) noO (someO (cE (.int 1)))) (tupE (consA (varE 5) nilA))))) (exS (mtE isL appG (varE 2) (consA (tupE (consA (varE 3) (consA (tupE (consA (varE 6) (consA (opE (pure2 addD) (varE 7) (slE (opE ixA (varE 1) (cE (.int 1))) (someO (cE (.int 1))) noO)) nilA))) nilA))) nilA))) nxS)))
    (rtS (frzE (varE 2)))))
noncomputable def F_law_next : FM := cutF (body 9 (m_law_next))
abbrev s_law_machine : Stmt := top 20
abbrev N_law_machine : List Str := ["state", "plainly", "nodes", "targets", "symbols", "edges", "k", "finals", "node"]
theorem sc_law_machine : FnScope ["state", "plainly", "nodes", "targets", "symbols", "edges", "k", "finals", "node"] ["state", "plainly"] (defScope s_law_machine) := ⟨rfl, rfl, rfl, by decide +kernel, rfl, by decide +kernel, by decide +kernel⟩
noncomputable def m_law_machine : SM :=
    (seqS (setS 2 (lstE (consA (cE (.int 0)) (consA (cE (.int 1)) (consA (cE (.int 2)) (consA (cE (.str "m")) (consA (cE (.str "n")) nilA)))))))
    (seqS (setS 3 (ifE (truT (varE 1)) (lstE (consA (cE (.str "m")) (consA (cE (.str "n")) nilA))) (varE 2)))
    (seqS (setS 4 (ifE (truT (varE 1)) (lstE (consA (cE (.str "a")) (consA (cE (.str "b")) nilA))) (lstE (consA (cE (.str "a")) (consA (cE (.str "b")) (consA (cE (.str "a")) (consA (cE (.str "b")) (consA (cE .non) nilA))))))))
    (seqS (setS 5 (lstC nilA))
    (seqS (forS (rngI (consA (callE F_law_draw (consA (varE 0) (consA (cE (.int 8)) nilA))) nilA)) (nameG 6) (exS (mtE isL appG (varE 5) (consA (tupE (consA (callE F_law_pick (consA (varE 0) (consA (varE 2) nilA))) (consA (callE F_law_pick (consA (varE 0) (consA (varE 4) nilA))) (consA (callE F_law_pick (consA (varE 0) (consA (varE 3) nilA))) nilA)))) nilA))))
    (seqS (setS 7 (lcE (seqI (varE 2)) (.one 8) (blT (opE eqD (callE F_law_draw (consA (varE 0) (consA (cE (.int 3)) nilA))) (cE (.int 0)))) (varE 8) [8]))
    (rtS (tupE (consA (callE tupleF (consA (callE F_law_once (consA (varE 5) nilA)) nilA)) (consA (callE tupleF (consA (varE 7) nilA)) nilA))))))))))
noncomputable def F_law_machine : FM := cutF (body 9 (m_law_machine))
abbrev s_law_free : Stmt := top 21
abbrev N_law_free : List Str := ["edges", "nodes", "found", "k", "more", "edge"]
theorem sc_law_free : FnScope ["edges", "nodes", "found", "k", "more", "edge"] ["edges", "nodes"] (defScope s_law_free) := ⟨rfl, rfl, rfl, by decide +kernel, rfl, by decide +kernel, by decide +kernel⟩
noncomputable def m_law_free : SM :=
    (seqS (setS 2 (callE listB (consA (varE 1) nilA)))
    (seqS (forS (rngI (consA (cE (.int 40)) nilA)) (nameG 3) (seqS (setS 4 (lcE (seqI (varE 0)) (.one 5) (andT (blT (opE (pure2 isND) (opE ixA (varE 5) (cE (.int 1))) (cE .non))) (andT (blT (opE inD (opE ixA (varE 5) (cE (.int 0))) (varE 2))) (blT (opE notInD (opE ixA (varE 5) (cE (.int 2))) (varE 2))))) (opE ixA (varE 5) (cE (.int 2))) [5]))
    (seqS (ifS (blT (opE eqD (callE lenF (consA (varE 4) nilA)) (cE (.int 0)))) bkS nxS)
    (exS (mtE isL extG (varE 2) (consA (varE 4) nilA))))))
    (rtS (frzE (varE 2)))))
noncomputable def F_law_free : FM := cutF (body 6 (m_law_free))
abbrev s_law_along : Stmt := top 22
abbrev N_law_along : List Str := ["edges", "nodes", "symbols", "symbol", "edge"]
theorem sc_law_along : FnScope ["edges", "nodes", "symbols", "symbol", "edge"] ["edges", "nodes", "symbols"] (defScope s_law_along) := ⟨rfl, rfl, rfl, by decide +kernel, rfl, by decide +kernel, by decide +kernel⟩
noncomputable def m_law_along : SM :=
    (seqS (forS (seqI (varE 2)) (nameG 3) (seqS (setS 1 (callE F_law_free (consA (varE 0) (consA (varE 1) nilA))))
    (setS 1 (lcE (seqI (varE 0)) (.one 4) (andT (blT (opE eqD (opE ixA (varE 4) (cE (.int 1))) (varE 3))) (blT (opE inD (opE ixA (varE 4) (cE (.int 0))) (varE 1)))) (opE ixA (varE 4) (cE (.int 2))) [4]))))
    (rtS (varE 1)))
noncomputable def F_law_along : FM := cutF (body 5 (m_law_along))
abbrev s_law_accepts : Stmt := top 23
abbrev N_law_accepts : List Str := ["machine", "configuration", "edges", "finals", "nodes", "node"]
theorem sc_law_accepts : FnScope ["machine", "configuration", "edges", "finals", "nodes", "node"] ["machine", "configuration"] (defScope s_law_accepts) := ⟨rfl, rfl, rfl, by decide +kernel, rfl, by decide +kernel, by decide +kernel⟩
noncomputable def m_law_accepts : SM :=
    (seqS (asgS (varE 0) (tupG 2 (consG (nameG 2) (consG (nameG 3) nilG))))
    (seqS (setS 4 (callE F_law_along (consA (varE 2) (consA (lstE (consA (opE ixA (varE 1) (cE (.int 0))) nilA)) (consA (opE ixA (varE 1) (cE (.int 1))) nilA)))))
    (rtS (callE anyF (consA (lcE (seqI (callE F_law_free (consA (varE 2) (consA (varE 4) nilA)))) (.one 5) yesT (opE inD (varE 5) (varE 3)) [5]) nilA)))))
noncomputable def F_law_accepts : FM := cutF (body 6 (m_law_accepts))
abbrev s_law_stacks : Stmt := top 24
abbrev N_law_stacks : List Str := ["most", "stacks", "level", "k", "stack"]
theorem sc_law_stacks : FnScope ["most", "stacks", "level", "k", "stack"] ["most"] (defScope s_law_stacks) := ⟨rfl, rfl, rfl, by decide +kernel, rfl, by decide +kernel, by decide +kernel⟩
noncomputable def m_law_stacks : SM :=
    (seqS (setS 1 (lstC (consA (tupE nilA) nilA)))
    (seqS (setS 2 (lstE (consA (tupE nilA) nilA)))
    (seqS (forS (rngI (consA (varE 0) nilA)) (nameG 3) (seqS (setS 2 (opE (pure2 addD) (lcE (seqI (varE 2)) (.one 4) yesT (opE (pure2 addD) (varE 4) (tupE (consA (cE (.str "a")) nilA))) [4]) (lcE (seqI (varE 2)) (.one 4) yesT (opE (pure2 addD) (varE 4) (tupE (consA (cE (.str "b")) nilA))) [4])))
    (exS (mtE isL extG (varE 1) (consA (varE 2) nilA)))))
    (rtS (frzE (varE 1))))))
noncomputable def F_law_stacks : FM := cutF (body 5 (m_law_stacks))
abbrev s_law_missing : Stmt := top 25
abbrev N_law_missing : List Str := ["rules", "edges", "found", "p", "s", "q", "w", "mark", "ends", "end"]
theorem sc_law_missing : FnScope ["rules", "edges", "found", "p", "s", "q", "w", "mark", "ends", "end"] ["rules", "edges"] (defScope s_law_missing) := ⟨rfl, rfl, rfl, by decide +kernel, rfl, by decide +kernel, by decide +kernel⟩
noncomputable def m_law_missing : SM :=
    (seqS (setS 2 (lstC nilA))
    (seqS (forS (seqI (varE 0)) (tupG 5 (consG (nameG 3) (consG (nameG 4) (consG (nameG 5) (consG (nameG 6) (consG (nameG 7) nilG)))))) (seqS (setS 8 (callE F_law_along (consA (varE 1) (consA (lstE (consA (varE 5) nilA)) (consA (varE 6) nilA)))))
    (exS (mtE isL extG (varE 2) (consA (lcE (seqI (varE 8)) (.one 9) (blT (opE notInD (tupE (consA (varE 3) (consA (varE 4) (consA (varE 9) nilA)))) (varE 1))) (tupE (consA (varE 3) (consA (varE 4) (consA (varE 9) nilA)))) [9]) nilA)))))
    (rtS (frzE (varE 2)))))
noncomputable def F_law_missing : FM := cutF (body 10 (m_law_missing))
abbrev s_law_forwards : Stmt := top 26
abbrev N_law_forwards : List Str := ["rules", "edges", "p", "s", "q", "w", "mark", "ends", "node"]
theorem sc_law_forwards : FnScope ["rules", "edges", "p", "s", "q", "w", "mark", "ends", "node"] ["rules", "edges"] (defScope s_law_forwards) := ⟨rfl, rfl, rfl, by decide +kernel, rfl, by decide +kernel, by decide +kernel⟩
noncomputable def m_law_forwards : SM :=
    (seqS (forS (seqI (varE 0)) (tupG 5 (consG (nameG 2) (consG (nameG 3) (consG (nameG 4) (consG (nameG 5) (consG (nameG 6) nilG)))))) (seqS (setS 7 (ifE (blT (opE eqD (callE lenF (consA (varE 5) nilA)) (cE (.int 0)))) (callE F_law_free (consA (varE 1) (consA (lstE (consA (varE 4) nilA)) nilA))) (callE F_law_along (consA (varE 1) (consA (lstE (consA (varE 4) nilA)) (consA (varE 5) nilA))))))
    (ifS (notT (truT (callE allF (consA (lcE (seqI (callE F_law_along (consA (varE 1) (consA (lstE (consA (varE 2) nilA)) (consA (tupE (consA (varE 3) nilA)) nilA))))) (.one 8) yesT (opE inD (varE 8) (varE 7)) [8]) nilA)))) (rtS (cE (.bl false))) nxS)))
    (rtS (cE (.bl true))))
noncomputable def F_law_forwards : FM := cutF (body 9 (m_law_forwards))
abbrev s_law : Stmt := top 27
abbrev N_law : List Str := ["script", "state", "rules", "machine", "k", "missing", "states", "plain", "backwards", "forwards", "kept", "node", "stack", "due", "number", "after", "reached", "rule", "edge"]
theorem sc_law : FnScope ["script", "state", "rules", "machine", "k", "missing", "states", "plain", "backwards", "forwards", "kept", "node", "stack", "due", "number", "after", "reached", "rule", "edge"] ["script"] (defScope s_law) := ⟨rfl, rfl, rfl, by decide +kernel, rfl, by decide +kernel, by decide +kernel⟩
noncomputable def m_law (C_Ways : Addr) : SM :=
    (seqS (setS 1 (callE F_law_start (consA (varE 0) nilA)))
    (seqS (setS 2 (callE F_law_pushdown (consA (varE 1) nilA)))
    (seqS (setS 3 (callE F_law_machine (consA (varE 1) (consA (opE eqD (callE F_law_draw (consA (varE 1) (consA (cE (.int 2)) nilA))) (cE (.int 0))) nilA))))
    (seqS (ifS (blT (opE eqD (callE F_law_draw (consA (varE 1) (consA (cE (.int 2)) nilA))) (cE (.int 0)))) (forS (rngI (consA (cE (.int 40)) nilA)) (nameG 4) (seqS (setS 5 (callE F_law_missing (consA (varE 2) (consA (opE ixA (varE 3) (cE (.int 0))) nilA))))
    (seqS (ifS (blT (opE eqD (callE lenF (consA (varE 5) nilA)) (cE (.int 0)))) bkS nxS)
    (setS 3 (tupE (consA (opE (pure2 addD) (opE ixA (varE 3) (cE (.int 0))) (callE tupleF (consA (callE F_law_once (consA (varE 5) nilA)) nilA))) (consA (opE ixA (varE 3) (cE (.int 1))) nilA))))))) nxS)
    (seqS (setS 6 (opE (pure2 addD) (lcE (seqI (varE 2)) (.one 17) yesT (opE ixA (varE 17) (cE (.int 0))) [17]) (lcE (seqI (varE 2)) (.one 17) yesT (opE ixA (varE 17) (cE (.int 2))) [17])))
    (seqS (setS 7 (unE notD (callE anyF (consA (lcE (seqI (opE ixA (varE 3) (cE (.int 0)))) (.one 18) yesT (opE inD (opE ixA (varE 18) (cE (.int 2))) (varE 6)) [18]) nilA))))
    (seqS (setS 8 (opE eqD (callE lenF (consA (callE F_law_missing (consA (varE 2) (consA (opE ixA (varE 3) (cE (.int 0))) nilA))) nilA)) (cE (.int 0))))
    (seqS (setS 9 (callE F_law_forwards (consA (varE 2) (consA (opE ixA (varE 3) (cE (.int 0))) nilA))))
    (seqS (setS 10 (callE reprA (consA (varE 3) nilA)))
    (seqS (ifS (orT (notT (truT (callE F_law_is (consA (callE F_is_plain (consA (varE 2) (consA (varE 3) nilA))) (consA (varE 7) nilA))))) (notT (truT (callE F_law_is (consA (callE (F_takes_backwards C_Ways) (consA (varE 2) (consA (varE 3) nilA))) (consA (varE 8) nilA)))))) (rtS (cE (.bl false))) nxS)
    (seqS (ifS (orT (notT (truT (callE F_law_is (consA (callE (F_takes_forwards C_Ways) (consA (varE 2) (consA (varE 3) nilA))) (consA (varE 9) nilA))))) (blT (opE neD (callE reprA (consA (varE 3) nilA)) (varE 10)))) (rtS (cE (.bl false))) nxS)
    (seqS (forS (seqI (lstE (consA (cE (.int 0)) (consA (cE (.int 1)) (consA (cE (.int 2)) (consA (cE (.str "m")) (consA (cE (.str "x")) nilA))))))) (nameG 11) (forS (seqI (callE F_law_stacks (consA (cE (.int 3)) nilA))) (nameG 12) (seqS (setS 13 (callE F_law_accepts (consA (varE 3) (consA (tupE (consA (varE 11) (consA (varE 12) nilA))) nilA))))
    (seqS (ifS (notT (truT (callE F_law_is (consA (callE (F_accepts C_Ways) (consA (varE 3) (consA (tupE (consA (varE 11) (consA (varE 12) nilA))) nilA))) (consA (varE 13) nilA))))) (rtS (cE (.bl false))) nxS)
    (forS (seqI (callE F_law_next (consA (varE 2) (consA (tupE (consA (varE 11) (consA (varE 12) nilA))) nilA)))) (tupG 2 (consG (nameG 14) (consG (nameG 15) nilG))) (seqS (setS 16 (callE F_law_accepts (consA (varE 3) (consA (varE 15) nilA))))
    (ifS (orT (andT (truT (varE 8)) (andT (truT (varE 16)) (notT (truT (varE 13))))) (andT (truT (varE 9)) (andT (truT (varE 13)) (notT (truT (varE 16)))))) (rtS (cE (.bl false))) nxS)))))))
    (rtS (cE (.bl true)))))))))))))))
noncomputable def F_law (C_Ways : Addr) : FM := cutF (body 19 (m_law C_Ways))
/-! ### what the top has written -/
structure Txt (K : PySem.W.Frag) (pr : Params) (mg : Str → Option Value) where
  C_Ways : Addr
  cl_Ways : L2.Cls K C_Ways
  gc_Ways : mg "Ways" = some (.ref C_Ways)
  na_Ways__edges : NoAttr K C_Ways "_edges"
  na_Ways__to : NoAttr K C_Ways "_to"
  a_Ways_add : Addr
  fd_Ways_add : FuncData
  F_Ways_add : Fun K "add" "Ways.add" s_Ways_add a_Ways_add fd_Ways_add
  b_Ways_add : Binds K fd_Ways_add ["self", "edge"] []
  me_Ways_add : Meth K C_Ways "add" a_Ways_add
  a_Ways_init : Addr
  fd_Ways_init : FuncData
  F_Ways_init : Fun K "__init__" "Ways.__init__" s_Ways_init a_Ways_init fd_Ways_init
  b_Ways_init : Binds K fd_Ways_init ["self", "edges"] []
  mk_Ways : Mk K C_Ways a_Ways_init
  a_Ways_after : Addr
  fd_Ways_after : FuncData
  F_Ways_after : Fun K "after" "Ways.after" s_Ways_after a_Ways_after fd_Ways_after
  b_Ways_after : Binds K fd_Ways_after ["self", "nodes", "symbol"] []
  me_Ways_after : Meth K C_Ways "after" a_Ways_after
  a_Ways_freely : Addr
  fd_Ways_freely : FuncData
  F_Ways_freely : Fun K "freely" "Ways.freely" s_Ways_freely a_Ways_freely fd_Ways_freely
  b_Ways_freely : Binds K fd_Ways_freely ["self", "nodes"] []
  me_Ways_freely : Meth K C_Ways "freely" a_Ways_freely
  a_Ways_along : Addr
  fd_Ways_along : FuncData
  F_Ways_along : Fun K "along" "Ways.along" s_Ways_along a_Ways_along fd_Ways_along
  b_Ways_along : Binds K fd_Ways_along ["self", "nodes", "symbols"] []
  me_Ways_along : Meth K C_Ways "along" a_Ways_along
  a_accepts : Addr
  fd_accepts : FuncData
  F_accepts : Fun K "accepts" "accepts" s_accepts a_accepts fd_accepts
  b_accepts : Binds K fd_accepts ["machine", "configuration"] []
  g_accepts : mg "accepts" = some (.ref a_accepts)
  a_states_of : Addr
  fd_states_of : FuncData
  F_states_of : Fun K "states_of" "states_of" s_states_of a_states_of fd_states_of
  b_states_of : Binds K fd_states_of ["rules"] []
  g_states_of : mg "states_of" = some (.ref a_states_of)
  a_is_plain : Addr
  fd_is_plain : FuncData
  F_is_plain : Fun K "is_plain" "is_plain" s_is_plain a_is_plain fd_is_plain
  b_is_plain : Binds K fd_is_plain ["rules", "machine"] []
  g_is_plain : mg "is_plain" = some (.ref a_is_plain)
  a_backward_edges : Addr
  fd_backward_edges : FuncData
  F_backward_edges : Fun K "backward_edges" "backward_edges" s_backward_edges a_backward_edges fd_backward_edges
  b_backward_edges : Binds K fd_backward_edges ["rules", "ways"] []
  g_backward_edges : mg "backward_edges" = some (.ref a_backward_edges)
  a_takes_backwards : Addr
  fd_takes_backwards : FuncData
  F_takes_backwards : Fun K "takes_backwards" "takes_backwards" s_takes_backwards a_takes_backwards fd_takes_backwards
  b_takes_backwards : Binds K fd_takes_backwards ["rules", "machine"] []
  g_takes_backwards : mg "takes_backwards" = some (.ref a_takes_backwards)
  a_is_followed : Addr
  fd_is_followed : FuncData
  F_is_followed : Fun K "is_followed" "is_followed" s_is_followed a_is_followed fd_is_followed
  b_is_followed : Binds K fd_is_followed ["ways", "rule", "node"] []
  g_is_followed : mg "is_followed" = some (.ref a_is_followed)
  a_takes_forwards : Addr
  fd_takes_forwards : FuncData
  F_takes_forwards : Fun K "takes_forwards" "takes_forwards" s_takes_forwards a_takes_forwards fd_takes_forwards
  b_takes_forwards : Binds K fd_takes_forwards ["rules", "machine"] []
  g_takes_forwards : mg "takes_forwards" = some (.ref a_takes_forwards)
  a_law_start : Addr
  fd_law_start : FuncData
  F_law_start : Fun K "_law_start" "_law_start" s_law_start a_law_start fd_law_start
  b_law_start : Binds K fd_law_start ["script"] []
  g_law_start : mg "_law_start" = some (.ref a_law_start)
  a_law_draw : Addr
  fd_law_draw : FuncData
  F_law_draw : Fun K "_law_draw" "_law_draw" s_law_draw a_law_draw fd_law_draw
  b_law_draw : Binds K fd_law_draw ["state", "bound"] []
  g_law_draw : mg "_law_draw" = some (.ref a_law_draw)
  a_law_pick : Addr
  fd_law_pick : FuncData
  F_law_pick : Fun K "_law_pick" "_law_pick" s_law_pick a_law_pick fd_law_pick
  b_law_pick : Binds K fd_law_pick ["state", "things"] []
  g_law_pick : mg "_law_pick" = some (.ref a_law_pick)
  a_law_is : Addr
  fd_law_is : FuncData
  F_law_is : Fun K "_law_is" "_law_is" s_law_is a_law_is fd_law_is
  b_law_is : Binds K fd_law_is ["actual", "due"] []
  g_law_is : mg "_law_is" = some (.ref a_law_is)
  a_law_once : Addr
  fd_law_once : FuncData
  F_law_once : Fun K "_law_once" "_law_once" s_law_once a_law_once fd_law_once
  b_law_once : Binds K fd_law_once ["things"] []
  g_law_once : mg "_law_once" = some (.ref a_law_once)
  a_law_pushdown : Addr
  fd_law_pushdown : FuncData
  F_law_pushdown : Fun K "_law_pushdown" "_law_pushdown" s_law_pushdown a_law_pushdown fd_law_pushdown
  b_law_pushdown : Binds K fd_law_pushdown ["state"] []
  g_law_pushdown : mg "_law_pushdown" = some (.ref a_law_pushdown)
  a_law_next : Addr
  fd_law_next : FuncData
  F_law_next : Fun K "_law_next" "_law_next" s_law_next a_law_next fd_law_next
  b_law_next : Binds K fd_law_next ["rules", "configuration"] []
  g_law_next : mg "_law_next" = some (.ref a_law_next)
  a_law_machine : Addr
  fd_law_machine : FuncData
  F_law_machine : Fun K "_law_machine" "_law_machine" s_law_machine a_law_machine fd_law_machine
  b_law_machine : Binds K fd_law_machine ["state", "plainly"] []
  g_law_machine : mg "_law_machine" = some (.ref a_law_machine)
  a_law_free : Addr
  fd_law_free : FuncData
  F_law_free : Fun K "_law_free" "_law_free" s_law_free a_law_free fd_law_free
  b_law_free : Binds K fd_law_free ["edges", "nodes"] []
  g_law_free : mg "_law_free" = some (.ref a_law_free)
  a_law_along : Addr
  fd_law_along : FuncData
  F_law_along : Fun K "_law_along" "_law_along" s_law_along a_law_along fd_law_along
  b_law_along : Binds K fd_law_along ["edges", "nodes", "symbols"] []
  g_law_along : mg "_law_along" = some (.ref a_law_along)
  a_law_accepts : Addr
  fd_law_accepts : FuncData
  F_law_accepts : Fun K "_law_accepts" "_law_accepts" s_law_accepts a_law_accepts fd_law_accepts
  b_law_accepts : Binds K fd_law_accepts ["machine", "configuration"] []
  g_law_accepts : mg "_law_accepts" = some (.ref a_law_accepts)
  a_law_stacks : Addr
  fd_law_stacks : FuncData
  F_law_stacks : Fun K "_law_stacks" "_law_stacks" s_law_stacks a_law_stacks fd_law_stacks
  b_law_stacks : Binds K fd_law_stacks ["most"] []
  g_law_stacks : mg "_law_stacks" = some (.ref a_law_stacks)
  a_law_missing : Addr
  fd_law_missing : FuncData
  F_law_missing : Fun K "_law_missing" "_law_missing" s_law_missing a_law_missing fd_law_missing
  b_law_missing : Binds K fd_law_missing ["rules", "edges"] []
  g_law_missing : mg "_law_missing" = some (.ref a_law_missing)
  a_law_forwards : Addr
  fd_law_forwards : FuncData
  F_law_forwards : Fun K "_law_forwards" "_law_forwards" s_law_forwards a_law_forwards fd_law_forwards
  b_law_forwards : Binds K fd_law_forwards ["rules", "edges"] []
  g_law_forwards : mg "_law_forwards" = some (.ref a_law_forwards)
  a_law : Addr
  fd_law : FuncData
  F_law : Fun K "law" "law" s_law a_law fd_law
  b_law : Binds K fd_law ["script"] []
  g_law : mg "law" = some (.ref a_law)
  z_abs : mg "abs" = none
  z_all : mg "all" = none
  z_any : mg "any" = none
  z_bool : mg "bool" = none
  z_int : mg "int" = none
  z_isinstance : mg "isinstance" = none
  z_len : mg "len" = none
  z_list : mg "list" = none
  z_range : mg "range" = none
  z_repr : mg "repr" = none
  z_tuple : mg "tuple" = none
section
variable {P : Program} {W : World} {K : PySem.W.Frag} {mg : Str → Option Value} {base : Heap}
theorem ok_Ways_add (T : Txt K W.params mg) : FnOk P W K mg base CX0 1 T.a_Ways_add T.fd_Ways_add ["self", "edge"] (spF K W 2 (F_Ways_add T.C_Ways)) := by
  refine (fn_ok (k := 0) T.F_Ways_add sc_Ways_add fun cdv A outer s H E hr => ?_)
  exact (rss_cons (rs_if (rt_in hr re_var (re_fld T.cl_Ways T.na_Ways__edges re_var)) (rss_one (rs_ret re_bl)) rss_nil)
    (rss_cons (rs_asg re_bl (rg_sub hr (re_fld T.cl_Ways T.na_Ways__edges re_var) re_var))
    (rss_cons (rs_asg re_var (rg_tup rfl (rgs_cons (rg_name sc_Ways_add.nd) (rgs_cons (rg_name sc_Ways_add.nd) (rgs_cons (rg_name sc_Ways_add.nd) rgs_nil)))))
    (rss_cons (rs_expr (re_append (re_setdefault hr (re_fld T.cl_Ways T.na_Ways__to re_var) (ra_cons (re_tup (ra_cons re_var (ra_cons re_var ra_nil))) (ra_cons (re_lstC ra_nil) ra_nil))) (ra_cons re_var ra_nil)))
    (rss_one (rs_ret re_bl))))))
theorem ok_Ways_init (T : Txt K W.params mg) : FnOk P W K mg base CX0 2 T.a_Ways_init T.fd_Ways_init ["self", "edges"] (spF K W 2 (F_Ways_init T.C_Ways)) := by
  refine (fn_ok (k := 1) T.F_Ways_init sc_Ways_init fun cdv A outer s H E hr => ?_)
  exact (rss_cons (rs_fld T.cl_Ways T.na_Ways__edges re_var re_newDict)
    (rss_cons (rs_fld T.cl_Ways T.na_Ways__to re_var re_newDict)
    (rss_one (rs_for PassesOwn.never rfl (ri_seq re_var) (rg_name sc_Ways_init.nd) (rss_one (rs_expr (re_meth T.cl_Ways T.me_Ways_add (ok_Ways_add T) (hr.mono (by decide)) T.b_Ways_add re_var (ra_cons re_var ra_nil) (plus_len (consA_len (fun _ _ _ _ h => nilA_len h))))))))))
theorem ok_Ways_after (T : Txt K W.params mg) : FnOk P W K mg base CX0 1 T.a_Ways_after T.fd_Ways_after ["self", "nodes", "symbol"] (spF K W 3 (F_Ways_after T.C_Ways)) := by
  refine FnOk.cut (fn_ok (k := 0) T.F_Ways_after sc_Ways_after fun cdv A outer s H E hr => ?_)
  exact (rss_cons (rs_set sc_Ways_after.nd re_newDict)
    (rss_cons (rs_for PassesOwn.never rfl (ri_seq re_var) (rg_name sc_Ways_after.nd) (rss_one (rs_for PassesOwn.never rfl (ri_seq (re_get hr (re_fld T.cl_Ways T.na_Ways__to re_var) (ra_cons (re_tup (ra_cons re_var (ra_cons re_var ra_nil))) (ra_cons (re_lst ra_nil) ra_nil)))) (rg_name sc_Ways_after.nd) (rss_one (rs_asg re_bl (rg_sub hr re_var re_var))))))
    (rss_one (rs_ret (re_callTy (call_listA rfl) listA_ok (by rfl) T.z_list (by decide +kernel) (ra_cons re_var ra_nil))))))
theorem ok_Ways_freely (T : Txt K W.params mg) : FnOk P W K mg base CX0 2 T.a_Ways_freely T.fd_Ways_freely ["self", "nodes"] (spF K W 2 (F_Ways_freely T.C_Ways)) := by
  refine FnOk.cut (fn_ok (k := 1) T.F_Ways_freely sc_Ways_freely fun cdv A outer s H E hr => ?_)
  exact (rss_cons (rs_setDg hr (t := (.one 5)) (own := [("node", 5)]) rfl sc_Ways_freely.nd rfl (sw_trueD rfl rfl rfl (by decide +kernel)) (ri_seq re_var) (blkOk_by (N := N_Ways_freely) (sc := defScope s_Ways_freely) (by decide +kernel)) (fun _ _ _ _ _ => pg_name (i := 5) sc_Ways_freely.nd rfl (Or.inl rfl)) (fun _ _ _ _ _ => rts_nil) (fun _ _ _ _ _ => re_var) (fun _ _ _ _ _ => re_bl) (by decide))
    (rss_cons (rs_set sc_Ways_freely.nd (re_callTy (call_listA rfl) listB_ok (by rfl) T.z_list (by decide +kernel) (ra_cons re_var ra_nil)))
    (rss_cons (rs_while PassesOwn.never (rt_tru re_var) (rss_one (rs_for PassesOwn.never rfl (ri_seq (re_meth T.cl_Ways T.me_Ways_after (ok_Ways_after T) (hr.mono (by decide)) T.b_Ways_after re_var (ra_cons (re_lst (ra_cons (re_pop re_var) ra_nil)) (ra_cons re_non ra_nil)) (plus_len (consA_len (consA_len (fun _ _ _ _ h => nilA_len h)))))) (rg_name sc_Ways_freely.nd) (rss_one (rs_if (rt_notIn hr re_var re_var) (rss_cons (rs_asg re_bl (rg_sub hr re_var re_var))
    (rss_one (rs_expr (re_append re_var (ra_cons re_var ra_nil))))) rss_nil)))))
    (rss_one (rs_ret (re_callTy (call_listA rfl) listA_ok (by rfl) T.z_list (by decide +kernel) (ra_cons re_var ra_nil)))))))
theorem ok_Ways_along (T : Txt K W.params mg) : FnOk P W K mg base CX0 3 T.a_Ways_along T.fd_Ways_along ["self", "nodes", "symbols"] (spF K W 3 (F_Ways_along T.C_Ways)) := by
  refine FnOk.cut (fn_ok (k := 2) T.F_Ways_along sc_Ways_along fun cdv A outer s H E hr => ?_)
  exact (rss_cons (rs_for PassesOwn.never rfl (ri_seq re_var) (rg_name sc_Ways_along.nd) (rss_one (rs_set sc_Ways_along.nd (re_meth T.cl_Ways T.me_Ways_after (ok_Ways_after T) (hr.mono (by decide)) T.b_Ways_after re_var (ra_cons (re_meth T.cl_Ways T.me_Ways_freely (ok_Ways_freely T) (hr.mono (by decide)) T.b_Ways_freely re_var (ra_cons re_var ra_nil) (plus_len (consA_len (fun _ _ _ _ h => nilA_len h)))) (ra_cons re_var ra_nil)) (plus_len (consA_len (consA_len (fun _ _ _ _ h => nilA_len h))))))))
    (rss_one (rs_ret re_var)))
theorem ok_accepts (T : Txt K W.params mg) : FnOk P W K mg base CX0 4 T.a_accepts T.fd_accepts ["machine", "configuration"] (spF K W 2 (F_accepts T.C_Ways)) := by
  refine FnOk.cut (fn_ok (k := 3) T.F_accepts sc_accepts fun cdv A outer s H E hr => ?_)
  exact (rss_cons (rs_asg re_var (rg_tup rfl (rgs_cons (rg_name sc_accepts.nd) (rgs_cons (rg_name sc_accepts.nd) rgs_nil))))
    (rss_cons (rs_asg re_var (rg_tup rfl (rgs_cons (rg_name sc_accepts.nd) (rgs_cons (rg_name sc_accepts.nd) rgs_nil))))
    (rss_cons (rs_set sc_accepts.nd (re_make T.mk_Ways (ok_Ways_init T) (hr.mono (by decide)) (by rfl) T.gc_Ways T.b_Ways_init (ra_cons re_var ra_nil) (plus_len (consA_len (fun _ _ _ _ h => nilA_len h)))))
    (rss_one (rs_ret (re_callB (cr_any rfl) any_ok (by rfl) T.z_any (by decide +kernel) (ra_cons (re_lc (t := (.one 7)) (own := [("node", 7)]) rfl sc_accepts.nd (ri_seq (re_meth T.cl_Ways T.me_Ways_freely (ok_Ways_freely T) (hr.mono (by decide)) T.b_Ways_freely re_var (ra_cons (re_meth T.cl_Ways T.me_Ways_along (ok_Ways_along T) (hr.mono (by decide)) T.b_Ways_along re_var (ra_cons (re_lst (ra_cons re_var ra_nil)) (ra_cons re_var ra_nil)) (plus_len (consA_len (consA_len (fun _ _ _ _ h => nilA_len h))))) ra_nil) (plus_len (consA_len (fun _ _ _ _ h => nilA_len h))))) (blkOk_by (N := N_accepts) (sc := defScope s_accepts) (by decide +kernel)) (fun _ _ _ _ _ => pg_name (i := 7) sc_accepts.nd rfl (Or.inl rfl)) (fun _ _ _ _ _ => rts_nil) (fun _ _ _ _ _ => (re_in hr re_var re_var)) (by decide)) ra_nil)))))))
theorem ok_states_of (T : Txt K W.params mg) : FnOk P W K mg base CX0 1 T.a_states_of T.fd_states_of ["rules"] (spF K W 1 (F_states_of)) := by
  refine FnOk.cut (fn_ok (k := 0) T.F_states_of sc_states_of fun cdv A outer s H E hr => ?_)
  exact (rss_cons (rs_set sc_states_of.nd re_newDict)
    (rss_cons (rs_for PassesOwn.never rfl (ri_seq re_var) (rg_tup rfl (rgs_cons (rg_name sc_states_of.nd) (rgs_cons (rg_name sc_states_of.nd) (rgs_cons (rg_name sc_states_of.nd) (rgs_cons (rg_name sc_states_of.nd) (rgs_cons (rg_name sc_states_of.nd) rgs_nil)))))) (rss_cons (rs_asg re_bl (rg_sub hr re_var re_var))
    (rss_one (rs_asg re_bl (rg_sub hr re_var re_var)))))
    (rss_one (rs_ret (re_frz re_var)))))
theorem ok_is_plain (T : Txt K W.params mg) : FnOk P W K mg base CX0 2 T.a_is_plain T.fd_is_plain ["rules", "machine"] (spF K W 2 (F_is_plain)) := by
  refine FnOk.cut (fn_ok (k := 1) T.F_is_plain sc_is_plain fun cdv A outer s H E hr => ?_)
  exact (rss_cons (rs_set sc_is_plain.nd (re_call (ok_states_of T) (hr.mono (by decide)) (by rfl) T.g_states_of T.F_states_of.kp T.b_states_of (ra_cons re_var ra_nil) (consA_len (fun _ _ _ _ h => nilA_len h))))
    (rss_one (rs_ret (re_not (re_callB (cr_any rfl) any_ok (by rfl) T.z_any (by decide +kernel) (ra_cons (re_lc (t := (.many [3, 3, 4])) (own := [("_", 3), ("target", 4)]) rfl sc_is_plain.nd (ri_seq (re_ixA hr re_var re_int)) (blkOk_by (N := N_is_plain) (sc := defScope s_is_plain) (by decide +kernel)) (fun _ _ _ _ _ => pg_tup rfl (pgs_cons (pg_name (i := 3) sc_is_plain.nd rfl (Or.inl rfl)) (pgs_cons (pg_name (i := 3) sc_is_plain.nd rfl (Or.inl rfl)) (pgs_cons (pg_name (i := 4) sc_is_plain.nd rfl (Or.inl rfl)) pgs_nil)))) (fun _ _ _ _ _ => rts_nil) (fun _ _ _ _ _ => (re_in hr re_var re_var)) (by decide)) ra_nil))))))
theorem ok_backward_edges (T : Txt K W.params mg) : FnOk P W K mg base CX0 4 T.a_backward_edges T.fd_backward_edges ["rules", "ways"] (spF K W 2 (F_backward_edges T.C_Ways)) := by
  refine FnOk.cut (fn_ok (k := 3) T.F_backward_edges sc_backward_edges fun cdv A outer s H E hr => ?_)
  exact (rss_cons (rs_set sc_backward_edges.nd (re_lstC ra_nil))
    (rss_cons (rs_for PassesOwn.never rfl (ri_seq re_var) (rg_tup rfl (rgs_cons (rg_name sc_backward_edges.nd) (rgs_cons (rg_name sc_backward_edges.nd) (rgs_cons (rg_name sc_backward_edges.nd) (rgs_cons (rg_name sc_backward_edges.nd) (rgs_cons (rg_name sc_backward_edges.nd) rgs_nil)))))) (rss_one (rs_expr (re_extend re_var (ra_cons (re_lc (t := (.one 8)) (own := [("node", 8)]) rfl sc_backward_edges.nd (ri_seq (re_meth T.cl_Ways T.me_Ways_along (ok_Ways_along T) (hr.mono (by decide)) T.b_Ways_along re_var (ra_cons (re_lst (ra_cons re_var ra_nil)) (ra_cons re_var ra_nil)) (plus_len (consA_len (consA_len (fun _ _ _ _ h => nilA_len h)))))) (blkOk_by (N := N_backward_edges) (sc := defScope s_backward_edges) (by decide +kernel)) (fun _ _ _ _ _ => pg_name (i := 8) sc_backward_edges.nd rfl (Or.inl rfl)) (fun _ _ _ _ _ => rts_nil) (fun _ _ _ _ _ => (re_tup (ra_cons re_var (ra_cons re_var (ra_cons re_var ra_nil))))) (by decide)) ra_nil)))))
    (rss_one (rs_ret (re_frz re_var)))))
theorem ok_takes_backwards (T : Txt K W.params mg) : FnOk P W K mg base CX0 5 T.a_takes_backwards T.fd_takes_backwards ["rules", "machine"] (spF K W 2 (F_takes_backwards T.C_Ways)) := by
  refine FnOk.cut (fn_ok (k := 4) T.F_takes_backwards sc_takes_backwards fun cdv A outer s H E hr => ?_)
  exact (rss_cons (rs_asg re_var (rg_tup rfl (rgs_cons (rg_name sc_takes_backwards.nd) (rgs_cons (rg_name sc_takes_backwards.nd) rgs_nil))))
    (rss_one (rs_ret (re_callB (cr_all rfl) all_ok (by rfl) T.z_all (by decide +kernel) (ra_cons (re_lc (t := (.one 4)) (own := [("edge", 4)]) rfl sc_takes_backwards.nd (ri_seq (re_call (ok_backward_edges T) (hr.mono (by decide)) (by rfl) T.g_backward_edges T.F_backward_edges.kp T.b_backward_edges (ra_cons re_var (ra_cons (re_make T.mk_Ways (ok_Ways_init T) (hr.mono (by decide)) (by rfl) T.gc_Ways T.b_Ways_init (ra_cons re_var ra_nil) (plus_len (consA_len (fun _ _ _ _ h => nilA_len h)))) ra_nil)) (consA_len (consA_len (fun _ _ _ _ h => nilA_len h))))) (blkOk_by (N := N_takes_backwards) (sc := defScope s_takes_backwards) (by decide +kernel)) (fun _ _ _ _ _ => pg_name (i := 4) sc_takes_backwards.nd rfl (Or.inl rfl)) (fun _ _ _ _ _ => rts_nil) (fun _ _ _ _ _ => (re_in hr re_var re_var)) (by decide)) ra_nil)))))
theorem ok_is_followed (T : Txt K W.params mg) : FnOk P W K mg base CX0 4 T.a_is_followed T.fd_is_followed ["ways", "rule", "node"] (spF K W 3 (F_is_followed T.C_Ways)) := by
  refine FnOk.cut (fn_ok (k := 3) T.F_is_followed sc_is_followed fun cdv A outer s H E hr => ?_)
  exact (rss_cons (rs_asg re_var (rg_tup rfl (rgs_cons (rg_name sc_is_followed.nd) (rgs_cons (rg_name sc_is_followed.nd) (rgs_cons (rg_name sc_is_followed.nd) (rgs_cons (rg_name sc_is_followed.nd) (rgs_cons (rg_name sc_is_followed.nd) rgs_nil)))))))
    (rss_cons (rs_set sc_is_followed.nd (re_if (rt_not (rt_tru re_var)) (re_meth T.cl_Ways T.me_Ways_freely (ok_Ways_freely T) (hr.mono (by decide)) T.b_Ways_freely re_var (ra_cons (re_lst (ra_cons re_var ra_nil)) ra_nil) (plus_len (consA_len (fun _ _ _ _ h => nilA_len h)))) (re_meth T.cl_Ways T.me_Ways_along (ok_Ways_along T) (hr.mono (by decide)) T.b_Ways_along re_var (ra_cons (re_lst (ra_cons re_var ra_nil)) (ra_cons re_var ra_nil)) (plus_len (consA_len (consA_len (fun _ _ _ _ h => nilA_len h)))))))
    (rss_one (rs_ret (re_in hr re_var re_var)))))
theorem ok_takes_forwards (T : Txt K W.params mg) : FnOk P W K mg base CX0 5 T.a_takes_forwards T.fd_takes_forwards ["rules", "machine"] (spF K W 2 (F_takes_forwards T.C_Ways)) := by
  refine FnOk.cut (fn_ok (k := 4) T.F_takes_forwards sc_takes_forwards fun cdv A outer s H E hr => ?_)
  exact (rss_cons (rs_set sc_takes_forwards.nd (re_make T.mk_Ways (ok_Ways_init T) (hr.mono (by decide)) (by rfl) T.gc_Ways T.b_Ways_init (ra_cons (re_ixA hr re_var re_int) ra_nil) (plus_len (consA_len (fun _ _ _ _ h => nilA_len h)))))
    (rss_cons (rs_for PassesOwn.never rfl (ri_seq re_var) (rg_name sc_takes_forwards.nd) (rss_one (rs_for PassesOwn.never rfl (ri_seq (re_meth T.cl_Ways T.me_Ways_along (ok_Ways_along T) (hr.mono (by decide)) T.b_Ways_along re_var (ra_cons (re_lst (ra_cons (re_ixA hr re_var re_int) ra_nil)) (ra_cons (re_tup (ra_cons (re_ixA hr re_var re_int) ra_nil)) ra_nil)) (plus_len (consA_len (consA_len (fun _ _ _ _ h => nilA_len h)))))) (rg_name sc_takes_forwards.nd) (rss_one (rs_if (rt_not (rt_tru (re_call (ok_is_followed T) (hr.mono (by decide)) (by rfl) T.g_is_followed T.F_is_followed.kp T.b_is_followed (ra_cons re_var (ra_cons re_var (ra_cons re_var ra_nil))) (consA_len (consA_len (consA_len (fun _ _ _ _ h => nilA_len h))))))) (rss_one (rs_ret re_bl)) rss_nil)))))
    (rss_one (rs_ret re_bl))))
theorem ok_law_start (T : Txt K W.params mg) : FnOk P W K mg base CX0 1 T.a_law_start T.fd_law_start ["script"] (spF K W 1 (F_law_start)) := by
  refine (fn_ok (k := 0) T.F_law_start sc_law_start fun cdv A outer s H E hr => ?_)
  exact (rss_one (rs_ret (re_disp (pm := [((cE (.str "cells")), (lcE (seqI (varE 0)) (.one 1) yesT (callE (pureF absF) (consA (callE (pureF intF) (consA (varE 1) nilA)) nilA)) [1])), ((cE (.str "at")), (cE (.int 0))), ((cE (.str "left")), (cE (.int 0))), ((cE (.str "mix")), (opE (pure2 addD) (cE (.int 7)) (callE lenF (consA (varE 0) nilA))))]) (pps_consD re_str (re_lc (t := (.one 1)) (own := [("cell", 1)]) rfl sc_law_start.nd (ri_seq re_var) (blkOk_by (N := N_law_start) (sc := defScope s_law_start) (by decide +kernel)) (fun _ _ _ _ _ => pg_name (i := 1) sc_law_start.nd rfl (Or.inl rfl)) (fun _ _ _ _ _ => rts_nil) (fun _ _ _ _ _ => (re_callB call_abs abs_ok (by rfl) T.z_abs (by decide +kernel) (ra_cons (re_callTy call_int1 int_ok (by rfl) T.z_int (by decide +kernel) (ra_cons re_var ra_nil)) ra_nil))) (by decide)) (pps_consD re_str re_int (pps_consD re_str re_int (pps_consD re_str (re_add re_int (re_callB call_len len_ok (by rfl) T.z_len (by decide +kernel) (ra_cons re_var ra_nil))) pps_nilD)))) (by rfl) (by rfl) (fun z => by cases z) (by decide))))
theorem ok_law_draw (T : Txt K W.params mg) : FnOk P W K mg base CX0 1 T.a_law_draw T.fd_law_draw ["state", "bound"] (spF K W 2 (F_law_draw)) := by
  refine FnOk.cut (fn_ok (k := 0) T.F_law_draw sc_law_draw fun cdv A outer s H E hr => ?_)
  exact (rss_cons (rs_if (rt_w (rw_and (rt_eq hr (re_ixA hr re_var re_str) re_int) (rw_and1 (rt_lt hr (re_ixA hr re_var re_str) (re_callB call_len len_ok (by rfl) T.z_len (by decide +kernel) (ra_cons (re_ixA hr re_var re_str) ra_nil)))))) (rss_cons (rs_set sc_law_draw.nd (re_ixA hr (re_ixA hr re_var re_str) (re_ixA hr re_var re_str)))
    (rss_cons (rs_asg (re_add (re_ixA hr re_var re_str) re_int) (rg_sub hr re_var re_str))
    (rss_cons (rs_asg (re_mod (re_callTy call_int1 int_ok (by rfl) T.z_int (by decide +kernel) (ra_cons (re_add (re_add (re_mul (re_ixA hr re_var re_str) re_int) re_var) re_int) ra_nil)) re_int) (rg_sub hr re_var re_str))
    (rss_cons (rs_if (rt_lt hr re_var (re_pow re_int re_int)) (rss_one (rs_ret (re_mod (re_callTy call_int1 int_ok (by rfl) T.z_int (by decide +kernel) (ra_cons re_var ra_nil)) re_var))) rss_nil)
    (rss_one (rs_asg re_var (rg_sub hr re_var re_str))))))) rss_nil)
    (rss_cons (rs_if (rt_gt (re_ixA hr re_var re_str) re_int) (rss_cons (rs_set sc_law_draw.nd (re_mod (re_callTy call_int1 int_ok (by rfl) T.z_int (by decide +kernel) (ra_cons (re_ixA hr re_var re_str) ra_nil)) re_var))
    (rss_cons (rs_asg (re_fdiv (re_ixA hr re_var re_str) re_var) (rg_sub hr re_var re_str))
    (rss_one (rs_ret re_var)))) rss_nil)
    (rss_cons (rs_asg (re_mod (re_callTy call_int1 int_ok (by rfl) T.z_int (by decide +kernel) (ra_cons (re_add (re_mul (re_ixA hr re_var re_str) re_int) re_int) ra_nil)) re_int) (rg_sub hr re_var re_str))
    (rss_one (rs_ret (re_mod (re_callTy call_int1 int_ok (by rfl) T.z_int (by decide +kernel) (ra_cons (re_mod (re_callTy call_int1 int_ok (by rfl) T.z_int (by decide +kernel) (ra_cons (re_add (re_mul (re_ixA hr re_var re_str) re_int) re_int) ra_nil)) re_int) ra_nil)) re_var))))))
theorem ok_law_pick (T : Txt K W.params mg) : FnOk P W K mg base CX0 2 T.a_law_pick T.fd_law_pick ["state", "things"] (spF K W 2 (F_law_pick)) := by
  refine FnOk.cut (fn_ok (k := 1) T.F_law_pick sc_law_pick fun cdv A outer s H E hr => ?_)
  exact (rss_one (rs_ret (re_ixA hr re_var (re_call (ok_law_draw T) (hr.mono (by decide)) (by rfl) T.g_law_draw T.F_law_draw.kp T.b_law_draw (ra_cons re_var (ra_cons (re_callB call_len len_ok (by rfl) T.z_len (by decide +kernel) (ra_cons re_var ra_nil)) ra_nil)) (consA_len (consA_len (fun _ _ _ _ h => nilA_len h)))))))
theorem ok_law_is (T : Txt K W.params mg) : FnOk P W K mg base CX0 1 T.a_law_is T.fd_law_is ["actual", "due"] (spF K W 2 (F_law_is)) := by
  refine FnOk.cut (fn_ok (k := 0) T.F_law_is sc_law_is fun cdv A outer s H E hr => ?_)
  exact (rss_one (rs_ret (re_and (re_callB call_isi isi_ok (by rfl) T.z_isinstance (by decide +kernel) (ra_cons re_var (ra_cons (re_ty (by rfl) T.z_bool (by decide +kernel)) ra_nil))) (re_one (re_eq hr re_var re_var)))))
theorem ok_law_once (T : Txt K W.params mg) : FnOk P W K mg base CX0 1 T.a_law_once T.fd_law_once ["things"] (spF K W 1 (F_law_once)) := by
  refine FnOk.cut (fn_ok (k := 0) T.F_law_once sc_law_once fun cdv A outer s H E hr => ?_)
  exact (rss_cons (rs_set sc_law_once.nd (re_lstC ra_nil))
    (rss_cons (rs_for PassesOwn.never rfl (ri_seq re_var) (rg_name sc_law_once.nd) (rss_one (rs_if (rt_notIn hr re_var re_var) (rss_one (rs_expr (re_append re_var (ra_cons re_var ra_nil)))) rss_nil)))
    (rss_one (rs_ret (re_frz re_var)))))
theorem ok_law_pushdown (T : Txt K W.params mg) : FnOk P W K mg base CX0 3 T.a_law_pushdown T.fd_law_pushdown ["state"] (spF K W 1 (F_law_pushdown)) := by
  refine FnOk.cut (fn_ok (k := 2) T.F_law_pushdown sc_law_pushdown fun cdv A outer s H E hr => ?_)
  exact (rss_cons (rs_set sc_law_pushdown.nd (re_lstC ra_nil))
    (rss_cons (rs_for PassesOwn.never rfl (ri_range1 (by rfl) T.z_range (ra_cons (re_add re_int (re_call (ok_law_draw T) (hr.mono (by decide)) (by rfl) T.g_law_draw T.F_law_draw.kp T.b_law_draw (ra_cons re_var (ra_cons re_int ra_nil)) (consA_len (consA_len (fun _ _ _ _ h => nilA_len h))))) ra_nil) (consA_len (fun _ _ _ _ h => nilA_len h))) (rg_name sc_law_pushdown.nd) (rss_cons (rs_set sc_law_pushdown.nd (re_callTy call_tuple_of tuple_ok (by rfl) T.z_tuple (by decide +kernel) (ra_cons (re_lc (t := (.one 4)) (own := [("j", 4)]) rfl sc_law_pushdown.nd (ri_range1 (by rfl) T.z_range (ra_cons (re_call (ok_law_pick T) (hr.mono (by decide)) (by rfl) T.g_law_pick T.F_law_pick.kp T.b_law_pick (ra_cons re_var (ra_cons (re_lst (ra_cons re_int (ra_cons re_int (ra_cons re_int (ra_cons re_int (ra_cons re_int ra_nil)))))) ra_nil)) (consA_len (consA_len (fun _ _ _ _ h => nilA_len h)))) ra_nil) (consA_len (fun _ _ _ _ h => nilA_len h))) (blkOk_by (N := N_law_pushdown) (sc := defScope s_law_pushdown) (by decide +kernel)) (fun _ _ _ _ _ => pg_name (i := 4) sc_law_pushdown.nd rfl (Or.inl rfl)) (fun _ _ _ _ _ => rts_nil) (fun _ _ _ _ _ => (re_call (ok_law_pick T) (hr.mono (by decide)) (by rfl) T.g_law_pick T.F_law_pick.kp T.b_law_pick (ra_cons re_var (ra_cons (re_lst (ra_cons re_str (ra_cons re_str ra_nil))) ra_nil)) (consA_len (consA_len (fun _ _ _ _ h => nilA_len h))))) (by decide)) ra_nil)))
    (rss_one (rs_expr (re_append re_var (ra_cons (re_tup (ra_cons (re_call (ok_law_draw T) (hr.mono (by decide)) (by rfl) T.g_law_draw T.F_law_draw.kp T.b_law_draw (ra_cons re_var (ra_cons re_int ra_nil)) (consA_len (consA_len (fun _ _ _ _ h => nilA_len h)))) (ra_cons (re_call (ok_law_pick T) (hr.mono (by decide)) (by rfl) T.g_law_pick T.F_law_pick.kp T.b_law_pick (ra_cons re_var (ra_cons (re_lst (ra_cons re_str (ra_cons re_str ra_nil))) ra_nil)) (consA_len (consA_len (fun _ _ _ _ h => nilA_len h)))) (ra_cons (re_call (ok_law_draw T) (hr.mono (by decide)) (by rfl) T.g_law_draw T.F_law_draw.kp T.b_law_draw (ra_cons re_var (ra_cons re_int ra_nil)) (consA_len (consA_len (fun _ _ _ _ h => nilA_len h)))) (ra_cons re_var (ra_cons (re_callTy call_int1 int_ok (by rfl) T.z_int (by decide +kernel) (ra_cons (re_eq hr (re_call (ok_law_draw T) (hr.mono (by decide)) (by rfl) T.g_law_draw T.F_law_draw.kp T.b_law_draw (ra_cons re_var (ra_cons re_int ra_nil)) (consA_len (consA_len (fun _ _ _ _ h => nilA_len h)))) re_int) ra_nil)) ra_nil)))))) ra_nil))))))
    (rss_one (rs_ret (re_callTy call_tuple_of tuple_ok (by rfl) T.z_tuple (by decide +kernel) (ra_cons re_var ra_nil))))))
theorem ok_law_next (T : Txt K W.params mg) : FnOk P W K mg base CX0 1 T.a_law_next T.fd_law_next ["rules", "configuration"] (spF K W 2 (F_law_next)) := by
  refine FnOk.cut (fn_ok (k := 0) T.F_law_next sc_law_next fun cdv A outer s H E hr => ?_)
  exact (rss_cons (rs_set sc_law_next.nd (re_lstC ra_nil))
    (rss_cons (rs_for PassesOwn.never rfl (ri_range1 (by rfl) T.z_range (ra_cons (re_callB call_len len_ok (by rfl) T.z_len (by decide +kernel) (ra_cons re_var ra_nil)) ra_nil) (consA_len (fun _ _ _ _ h => nilA_len h))) (rg_name sc_law_next.nd) (rss_cons (rs_asg (re_ixA hr re_var re_var) (rg_tup rfl (rgs_cons (rg_name sc_law_next.nd) (rgs_cons (rg_name sc_law_next.nd) (rgs_cons (rg_name sc_law_next.nd) (rgs_cons (rg_name sc_law_next.nd) (rgs_cons (rg_name sc_law_next.nd) rgs_nil)))))))
    (rss_one (rs_if (rt_w (rw_and (rt_eq hr (re_ixA hr re_var re_int) re_var) (rw_and1 (rt_eq hr (re_sl (re_ixA hr re_var re_int) ro_none (ro_some re_int)) (re_tup (ra_cons re_var ra_nil)))))) (rss_one (rs_expr (re_append re_var (ra_cons (re_tup (ra_cons re_var (ra_cons (re_tup (ra_cons re_var (ra_cons (re_add re_var (re_sl (re_ixA hr re_var re_int) (ro_some re_int) ro_none)) ra_nil))) ra_nil))) ra_nil)))) rss_nil))))
    (rss_one (rs_ret (re_frz re_var)))))
theorem ok_law_machine (T : Txt K W.params mg) : FnOk P W K mg base CX0 3 T.a_law_machine T.fd_law_machine ["state", "plainly"] (spF K W 2 (F_law_machine)) := by
  refine FnOk.cut (fn_ok (k := 2) T.F_law_machine sc_law_machine fun cdv A outer s H E hr => ?_)
  exact (rss_cons (rs_set sc_law_machine.nd (re_lst (ra_cons re_int (ra_cons re_int (ra_cons re_int (ra_cons re_str (ra_cons re_str ra_nil)))))))
    (rss_cons (rs_set sc_law_machine.nd (re_if (rt_tru re_var) (re_lst (ra_cons re_str (ra_cons re_str ra_nil))) re_var))
    (rss_cons (rs_set sc_law_machine.nd (re_if (rt_tru re_var) (re_lst (ra_cons re_str (ra_cons re_str ra_nil))) (re_lst (ra_cons re_str (ra_cons re_str (ra_cons re_str (ra_cons re_str (ra_cons re_non ra_nil))))))))
    (rss_cons (rs_set sc_law_machine.nd (re_lstC ra_nil))
    (rss_cons (rs_for PassesOwn.never rfl (ri_range1 (by rfl) T.z_range (ra_cons (re_call (ok_law_draw T) (hr.mono (by decide)) (by rfl) T.g_law_draw T.F_law_draw.kp T.b_law_draw (ra_cons re_var (ra_cons re_int ra_nil)) (consA_len (consA_len (fun _ _ _ _ h => nilA_len h)))) ra_nil) (consA_len (fun _ _ _ _ h => nilA_len h))) (rg_name sc_law_machine.nd) (rss_one (rs_expr (re_append re_var (ra_cons (re_tup (ra_cons (re_call (ok_law_pick T) (hr.mono (by decide)) (by rfl) T.g_law_pick T.F_law_pick.kp T.b_law_pick (ra_cons re_var (ra_cons re_var ra_nil)) (consA_len (consA_len (fun _ _ _ _ h => nilA_len h)))) (ra_cons (re_call (ok_law_pick T) (hr.mono (by decide)) (by rfl) T.g_law_pick T.F_law_pick.kp T.b_law_pick (ra_cons re_var (ra_cons re_var ra_nil)) (consA_len (consA_len (fun _ _ _ _ h => nilA_len h)))) (ra_cons (re_call (ok_law_pick T) (hr.mono (by decide)) (by rfl) T.g_law_pick T.F_law_pick.kp T.b_law_pick (ra_cons re_var (ra_cons re_var ra_nil)) (consA_len (consA_len (fun _ _ _ _ h => nilA_len h)))) ra_nil)))) ra_nil)))))
    (rss_cons (rs_setLc (t := (.one 8)) (own := [("node", 8)]) rfl sc_law_machine.nd rfl (sw_true rfl rfl rfl (by decide +kernel)) (ri_seq re_var) (blkOk_by (N := N_law_machine) (sc := defScope s_law_machine) (by decide +kernel)) (fun _ _ _ _ _ => pg_name (i := 8) sc_law_machine.nd rfl (Or.inl rfl)) (fun _ _ _ _ _ => (rts_one (rt_eq hr (re_call (ok_law_draw T) (hr.mono (by decide)) (by rfl) T.g_law_draw T.F_law_draw.kp T.b_law_draw (ra_cons re_var (ra_cons re_int ra_nil)) (consA_len (consA_len (fun _ _ _ _ h => nilA_len h)))) re_int))) (fun _ _ _ _ _ => re_var) (by decide))
    (rss_one (rs_ret (re_tup (ra_cons (re_callTy call_tuple_of tuple_ok (by rfl) T.z_tuple (by decide +kernel) (ra_cons (re_call (ok_law_once T) (hr.mono (by decide)) (by rfl) T.g_law_once T.F_law_once.kp T.b_law_once (ra_cons re_var ra_nil) (consA_len (fun _ _ _ _ h => nilA_len h))) ra_nil)) (ra_cons (re_callTy call_tuple_of tuple_ok (by rfl) T.z_tuple (by decide +kernel) (ra_cons re_var ra_nil)) ra_nil)))))))))))
theorem ok_law_free (T : Txt K W.params mg) : FnOk P W K mg base CX0 1 T.a_law_free T.fd_law_free ["edges", "nodes"] (spF K W 2 (F_law_free)) := by
  refine FnOk.cut (fn_ok (k := 0) T.F_law_free sc_law_free fun cdv A outer s H E hr => ?_)
  exact (rss_cons (rs_set sc_law_free.nd (re_callTy (call_listA rfl) listB_ok (by rfl) T.z_list (by decide +kernel) (ra_cons re_var ra_nil)))
    (rss_cons (rs_for PassesOwn.never rfl (ri_range1 (by rfl) T.z_range (ra_cons re_int ra_nil) (consA_len (fun _ _ _ _ h => nilA_len h))) (rg_name sc_law_free.nd) (rss_cons (rs_setLc (t := (.one 5)) (own := [("edge", 5)]) rfl sc_law_free.nd rfl (sw_true rfl rfl rfl (by decide +kernel)) (ri_seq re_var) (blkOk_by (N := N_law_free) (sc := defScope s_law_free) (by decide +kernel)) (fun _ _ _ _ _ => pg_name (i := 5) sc_law_free.nd rfl (Or.inl rfl)) (fun _ _ _ _ _ => (rts_one (rt_w (rw_and (rt_isN (re_ixA hr re_var re_int) re_non) (rw_and (rt_in hr (re_ixA hr re_var re_int) re_var) (rw_and1 (rt_notIn hr (re_ixA hr re_var re_int) re_var))))))) (fun _ _ _ _ _ => (re_ixA hr re_var re_int)) (by decide))
    (rss_cons (rs_if (rt_eq hr (re_callB call_len len_ok (by rfl) T.z_len (by decide +kernel) (ra_cons re_var ra_nil)) re_int) (rss_one rs_break) rss_nil)
    (rss_one (rs_expr (re_extend re_var (ra_cons re_var ra_nil)))))))
    (rss_one (rs_ret (re_frz re_var)))))
theorem ok_law_along (T : Txt K W.params mg) : FnOk P W K mg base CX0 2 T.a_law_along T.fd_law_along ["edges", "nodes", "symbols"] (spF K W 3 (F_law_along)) := by
  refine FnOk.cut (fn_ok (k := 1) T.F_law_along sc_law_along fun cdv A outer s H E hr => ?_)
  exact (rss_cons (rs_for PassesOwn.never rfl (ri_seq re_var) (rg_name sc_law_along.nd) (rss_cons (rs_set sc_law_along.nd (re_call (ok_law_free T) (hr.mono (by decide)) (by rfl) T.g_law_free T.F_law_free.kp T.b_law_free (ra_cons re_var (ra_cons re_var ra_nil)) (consA_len (consA_len (fun _ _ _ _ h => nilA_len h)))))
    (rss_one (rs_set sc_law_along.nd (re_lc (t := (.one 4)) (own := [("edge", 4)]) rfl sc_law_along.nd (ri_seq re_var) (blkOk_by (N := N_law_along) (sc := defScope s_law_along) (by decide +kernel)) (fun _ _ _ _ _ => pg_name (i := 4) sc_law_along.nd rfl (Or.inl rfl)) (fun _ _ _ _ _ => (rts_one (rt_w (rw_and (rt_eq hr (re_ixA hr re_var re_int) re_var) (rw_and1 (rt_in hr (re_ixA hr re_var re_int) re_var)))))) (fun _ _ _ _ _ => (re_ixA hr re_var re_int)) (by decide))))))
    (rss_one (rs_ret re_var)))
theorem ok_law_accepts (T : Txt K W.params mg) : FnOk P W K mg base CX0 3 T.a_law_accepts T.fd_law_accepts ["machine", "configuration"] (spF K W 2 (F_law_accepts)) := by
  refine FnOk.cut (fn_ok (k := 2) T.F_law_accepts sc_law_accepts fun cdv A outer s H E hr => ?_)
  exact (rss_cons (rs_asg re_var (rg_tup rfl (rgs_cons (rg_name sc_law_accepts.nd) (rgs_cons (rg_name sc_law_accepts.nd) rgs_nil))))
    (rss_cons (rs_set sc_law_accepts.nd (re_call (ok_law_along T) (hr.mono (by decide)) (by rfl) T.g_law_along T.F_law_along.kp T.b_law_along (ra_cons re_var (ra_cons (re_lst (ra_cons (re_ixA hr re_var re_int) ra_nil)) (ra_cons (re_ixA hr re_var re_int) ra_nil))) (consA_len (consA_len (consA_len (fun _ _ _ _ h => nilA_len h))))))
    (rss_one (rs_ret (re_callB (cr_any rfl) any_ok (by rfl) T.z_any (by decide +kernel) (ra_cons (re_lc (t := (.one 5)) (own := [("node", 5)]) rfl sc_law_accepts.nd (ri_seq (re_call (ok_law_free T) (hr.mono (by decide)) (by rfl) T.g_law_free T.F_law_free.kp T.b_law_free (ra_cons re_var (ra_cons re_var ra_nil)) (consA_len (consA_len (fun _ _ _ _ h => nilA_len h))))) (blkOk_by (N := N_law_accepts) (sc := defScope s_law_accepts) (by decide +kernel)) (fun _ _ _ _ _ => pg_name (i := 5) sc_law_accepts.nd rfl (Or.inl rfl)) (fun _ _ _ _ _ => rts_nil) (fun _ _ _ _ _ => (re_in hr re_var re_var)) (by decide)) ra_nil))))))
theorem ok_law_stacks (T : Txt K W.params mg) : FnOk P W K mg base CX0 1 T.a_law_stacks T.fd_law_stacks ["most"] (spF K W 1 (F_law_stacks)) := by
  refine FnOk.cut (fn_ok (k := 0) T.F_law_stacks sc_law_stacks fun cdv A outer s H E hr => ?_)
  exact (rss_cons (rs_set sc_law_stacks.nd (re_lstC (ra_cons (re_tup ra_nil) ra_nil)))
    (rss_cons (rs_set sc_law_stacks.nd (re_lst (ra_cons (re_tup ra_nil) ra_nil)))
    (rss_cons (rs_for PassesOwn.never rfl (ri_range1 (by rfl) T.z_range (ra_cons re_var ra_nil) (consA_len (fun _ _ _ _ h => nilA_len h))) (rg_name sc_law_stacks.nd) (rss_cons (rs_set sc_law_stacks.nd (re_add (re_lc (t := (.one 4)) (own := [("stack", 4)]) rfl sc_law_stacks.nd (ri_seq re_var) (blkOk_by (N := N_law_stacks) (sc := defScope s_law_stacks) (by decide +kernel)) (fun _ _ _ _ _ => pg_name (i := 4) sc_law_stacks.nd rfl (Or.inl rfl)) (fun _ _ _ _ _ => rts_nil) (fun _ _ _ _ _ => (re_add re_var (re_tup (ra_cons re_str ra_nil)))) (by decide)) (re_lc (t := (.one 4)) (own := [("stack", 4)]) rfl sc_law_stacks.nd (ri_seq re_var) (blkOk_by (N := N_law_stacks) (sc := defScope s_law_stacks) (by decide +kernel)) (fun _ _ _ _ _ => pg_name (i := 4) sc_law_stacks.nd rfl (Or.inl rfl)) (fun _ _ _ _ _ => rts_nil) (fun _ _ _ _ _ => (re_add re_var (re_tup (ra_cons re_str ra_nil)))) (by decide))))
    (rss_one (rs_expr (re_extend re_var (ra_cons re_var ra_nil))))))
    (rss_one (rs_ret (re_frz re_var))))))
theorem ok_law_missing (T : Txt K W.params mg) : FnOk P W K mg base CX0 3 T.a_law_missing T.fd_law_missing ["rules", "edges"] (spF K W 2 (F_law_missing)) := by
  refine FnOk.cut (fn_ok (k := 2) T.F_law_missing sc_law_missing fun cdv A outer s H E hr => ?_)
  exact (rss_cons (rs_set sc_law_missing.nd (re_lstC ra_nil))
    (rss_cons (rs_for PassesOwn.never rfl (ri_seq re_var) (rg_tup rfl (rgs_cons (rg_name sc_law_missing.nd) (rgs_cons (rg_name sc_law_missing.nd) (rgs_cons (rg_name sc_law_missing.nd) (rgs_cons (rg_name sc_law_missing.nd) (rgs_cons (rg_name sc_law_missing.nd) rgs_nil)))))) (rss_cons (rs_set sc_law_missing.nd (re_call (ok_law_along T) (hr.mono (by decide)) (by rfl) T.g_law_along T.F_law_along.kp T.b_law_along (ra_cons re_var (ra_cons (re_lst (ra_cons re_var ra_nil)) (ra_cons re_var ra_nil))) (consA_len (consA_len (consA_len (fun _ _ _ _ h => nilA_len h))))))
    (rss_one (rs_expr (re_extend re_var (ra_cons (re_lc (t := (.one 9)) (own := [("end", 9)]) rfl sc_law_missing.nd (ri_seq re_var) (blkOk_by (N := N_law_missing) (sc := defScope s_law_missing) (by decide +kernel)) (fun _ _ _ _ _ => pg_name (i := 9) sc_law_missing.nd rfl (Or.inl rfl)) (fun _ _ _ _ _ => (rts_one (rt_notIn hr (re_tup (ra_cons re_var (ra_cons re_var (ra_cons re_var ra_nil)))) re_var))) (fun _ _ _ _ _ => (re_tup (ra_cons re_var (ra_cons re_var (ra_cons re_var ra_nil))))) (by decide)) ra_nil))))))
    (rss_one (rs_ret (re_frz re_var)))))
theorem ok_law_forwards (T : Txt K W.params mg) : FnOk P W K mg base CX0 3 T.a_law_forwards T.fd_law_forwards ["rules", "edges"] (spF K W 2 (F_law_forwards)) := by
  refine FnOk.cut (fn_ok (k := 2) T.F_law_forwards sc_law_forwards fun cdv A outer s H E hr => ?_)
  exact (rss_cons (rs_for PassesOwn.never rfl (ri_seq re_var) (rg_tup rfl (rgs_cons (rg_name sc_law_forwards.nd) (rgs_cons (rg_name sc_law_forwards.nd) (rgs_cons (rg_name sc_law_forwards.nd) (rgs_cons (rg_name sc_law_forwards.nd) (rgs_cons (rg_name sc_law_forwards.nd) rgs_nil)))))) (rss_cons (rs_set sc_law_forwards.nd (re_if (rt_eq hr (re_callB call_len len_ok (by rfl) T.z_len (by decide +kernel) (ra_cons re_var ra_nil)) re_int) (re_call (ok_law_free T) (hr.mono (by decide)) (by rfl) T.g_law_free T.F_law_free.kp T.b_law_free (ra_cons re_var (ra_cons (re_lst (ra_cons re_var ra_nil)) ra_nil)) (consA_len (consA_len (fun _ _ _ _ h => nilA_len h)))) (re_call (ok_law_along T) (hr.mono (by decide)) (by rfl) T.g_law_along T.F_law_along.kp T.b_law_along (ra_cons re_var (ra_cons (re_lst (ra_cons re_var ra_nil)) (ra_cons re_var ra_nil))) (consA_len (consA_len (consA_len (fun _ _ _ _ h => nilA_len h)))))))
    (rss_one (rs_if (rt_not (rt_tru (re_callB (cr_all rfl) all_ok (by rfl) T.z_all (by decide +kernel) (ra_cons (re_lc (t := (.one 8)) (own := [("node", 8)]) rfl sc_law_forwards.nd (ri_seq (re_call (ok_law_along T) (hr.mono (by decide)) (by rfl) T.g_law_along T.F_law_along.kp T.b_law_along (ra_cons re_var (ra_cons (re_lst (ra_cons re_var ra_nil)) (ra_cons (re_tup (ra_cons re_var ra_nil)) ra_nil))) (consA_len (consA_len (consA_len (fun _ _ _ _ h => nilA_len h)))))) (blkOk_by (N := N_law_forwards) (sc := defScope s_law_forwards) (by decide +kernel)) (fun _ _ _ _ _ => pg_name (i := 8) sc_law_forwards.nd rfl (Or.inl rfl)) (fun _ _ _ _ _ => rts_nil) (fun _ _ _ _ _ => (re_in hr re_var re_var)) (by decide)) ra_nil)))) (rss_one (rs_ret re_bl)) rss_nil))))
    (rss_one (rs_ret re_bl)))
theorem ok_law (T : Txt K W.params mg) : FnAt callerA P W K mg base CX0 T.a_law T.fd_law ["script"] (spF K W 1 (F_law T.C_Ways)) := by
  refine FnAt.cut (fnAt_ok (k := 5) T.F_law sc_law ⟨rfl, by decide, by decide⟩ fun cdv outer s H E hr => ?_)
  exact (rss_cons (rs_set sc_law.nd (re_call (ok_law_start T) (hr.mono (by decide)) (by rfl) T.g_law_start T.F_law_start.kp T.b_law_start (ra_cons re_var ra_nil) (consA_len (fun _ _ _ _ h => nilA_len h))))
    (rss_cons (rs_set sc_law.nd (re_call (ok_law_pushdown T) (hr.mono (by decide)) (by rfl) T.g_law_pushdown T.F_law_pushdown.kp T.b_law_pushdown (ra_cons re_var ra_nil) (consA_len (fun _ _ _ _ h => nilA_len h))))
    (rss_cons (rs_set sc_law.nd (re_call (ok_law_machine T) (hr.mono (by decide)) (by rfl) T.g_law_machine T.F_law_machine.kp T.b_law_machine (ra_cons re_var (ra_cons (re_eq hr (re_call (ok_law_draw T) (hr.mono (by decide)) (by rfl) T.g_law_draw T.F_law_draw.kp T.b_law_draw (ra_cons re_var (ra_cons re_int ra_nil)) (consA_len (consA_len (fun _ _ _ _ h => nilA_len h)))) re_int) ra_nil)) (consA_len (consA_len (fun _ _ _ _ h => nilA_len h)))))
    (rss_cons (rs_if (rt_eq hr (re_call (ok_law_draw T) (hr.mono (by decide)) (by rfl) T.g_law_draw T.F_law_draw.kp T.b_law_draw (ra_cons re_var (ra_cons re_int ra_nil)) (consA_len (consA_len (fun _ _ _ _ h => nilA_len h)))) re_int) (rss_one (rs_for PassesOwn.never rfl (ri_range1 (by rfl) T.z_range (ra_cons re_int ra_nil) (consA_len (fun _ _ _ _ h => nilA_len h))) (rg_name sc_law.nd) (rss_cons (rs_set sc_law.nd (re_call (ok_law_missing T) (hr.mono (by decide)) (by rfl) T.g_law_missing T.F_law_missing.kp T.b_law_missing (ra_cons re_var (ra_cons (re_ixA hr re_var re_int) ra_nil)) (consA_len (consA_len (fun _ _ _ _ h => nilA_len h)))))
    (rss_cons (rs_if (rt_eq hr (re_callB call_len len_ok (by rfl) T.z_len (by decide +kernel) (ra_cons re_var ra_nil)) re_int) (rss_one rs_break) rss_nil)
    (rss_one (rs_set sc_law.nd (re_tup (ra_cons (re_add (re_ixA hr re_var re_int) (re_callTy call_tuple_of tuple_ok (by rfl) T.z_tuple (by decide +kernel) (ra_cons (re_call (ok_law_once T) (hr.mono (by decide)) (by rfl) T.g_law_once T.F_law_once.kp T.b_law_once (ra_cons re_var ra_nil) (consA_len (fun _ _ _ _ h => nilA_len h))) ra_nil))) (ra_cons (re_ixA hr re_var re_int) ra_nil))))))))) rss_nil)
    (rss_cons (rs_set sc_law.nd (re_add (re_lc (t := (.one 17)) (own := [("rule", 17)]) rfl sc_law.nd (ri_seq re_var) (blkOk_by (N := N_law) (sc := defScope s_law) (by decide +kernel)) (fun _ _ _ _ _ => pg_name (i := 17) sc_law.nd rfl (Or.inl rfl)) (fun _ _ _ _ _ => rts_nil) (fun _ _ _ _ _ => (re_ixA hr re_var re_int)) (by decide)) (re_lc (t := (.one 17)) (own := [("rule", 17)]) rfl sc_law.nd (ri_seq re_var) (blkOk_by (N := N_law) (sc := defScope s_law) (by decide +kernel)) (fun _ _ _ _ _ => pg_name (i := 17) sc_law.nd rfl (Or.inl rfl)) (fun _ _ _ _ _ => rts_nil) (fun _ _ _ _ _ => (re_ixA hr re_var re_int)) (by decide))))
    (rss_cons (rs_set sc_law.nd (re_not (re_callB (cr_any rfl) any_ok (by rfl) T.z_any (by decide +kernel) (ra_cons (re_lc (t := (.one 18)) (own := [("edge", 18)]) rfl sc_law.nd (ri_seq (re_ixA hr re_var re_int)) (blkOk_by (N := N_law) (sc := defScope s_law) (by decide +kernel)) (fun _ _ _ _ _ => pg_name (i := 18) sc_law.nd rfl (Or.inl rfl)) (fun _ _ _ _ _ => rts_nil) (fun _ _ _ _ _ => (re_in hr (re_ixA hr re_var re_int) re_var)) (by decide)) ra_nil))))
    (rss_cons (rs_set sc_law.nd (re_eq hr (re_callB call_len len_ok (by rfl) T.z_len (by decide +kernel) (ra_cons (re_call (ok_law_missing T) (hr.mono (by decide)) (by rfl) T.g_law_missing T.F_law_missing.kp T.b_law_missing (ra_cons re_var (ra_cons (re_ixA hr re_var re_int) ra_nil)) (consA_len (consA_len (fun _ _ _ _ h => nilA_len h)))) ra_nil)) re_int))
    (rss_cons (rs_set sc_law.nd (re_call (ok_law_forwards T) (hr.mono (by decide)) (by rfl) T.g_law_forwards T.F_law_forwards.kp T.b_law_forwards (ra_cons re_var (ra_cons (re_ixA hr re_var re_int) ra_nil)) (consA_len (consA_len (fun _ _ _ _ h => nilA_len h)))))
    (rss_cons (rs_set sc_law.nd (re_callB (call_repr rfl hr) repr_ok (by rfl) T.z_repr (by decide +kernel) (ra_cons re_var ra_nil)))
    (rss_cons (rs_if (rt_w (rw_or (rt_not (rt_tru (re_call (ok_law_is T) (hr.mono (by decide)) (by rfl) T.g_law_is T.F_law_is.kp T.b_law_is (ra_cons (re_call (ok_is_plain T) (hr.mono (by decide)) (by rfl) T.g_is_plain T.F_is_plain.kp T.b_is_plain (ra_cons re_var (ra_cons re_var ra_nil)) (consA_len (consA_len (fun _ _ _ _ h => nilA_len h)))) (ra_cons re_var ra_nil)) (consA_len (consA_len (fun _ _ _ _ h => nilA_len h)))))) (rw_or1 (rt_not (rt_tru (re_call (ok_law_is T) (hr.mono (by decide)) (by rfl) T.g_law_is T.F_law_is.kp T.b_law_is (ra_cons (re_call (ok_takes_backwards T) (hr.mono (by decide)) (by rfl) T.g_takes_backwards T.F_takes_backwards.kp T.b_takes_backwards (ra_cons re_var (ra_cons re_var ra_nil)) (consA_len (consA_len (fun _ _ _ _ h => nilA_len h)))) (ra_cons re_var ra_nil)) (consA_len (consA_len (fun _ _ _ _ h => nilA_len h))))))))) (rss_one (rs_ret re_bl)) rss_nil)
    (rss_cons (rs_if (rt_w (rw_or (rt_not (rt_tru (re_call (ok_law_is T) (hr.mono (by decide)) (by rfl) T.g_law_is T.F_law_is.kp T.b_law_is (ra_cons (re_call (ok_takes_forwards T) (hr.mono (by decide)) (by rfl) T.g_takes_forwards T.F_takes_forwards.kp T.b_takes_forwards (ra_cons re_var (ra_cons re_var ra_nil)) (consA_len (consA_len (fun _ _ _ _ h => nilA_len h)))) (ra_cons re_var ra_nil)) (consA_len (consA_len (fun _ _ _ _ h => nilA_len h)))))) (rw_or1 (rt_ne hr (re_callB (call_repr rfl hr) repr_ok (by rfl) T.z_repr (by decide +kernel) (ra_cons re_var ra_nil)) re_var)))) (rss_one (rs_ret re_bl)) rss_nil)
    (rss_cons (rs_for PassesOwn.never rfl (ri_seq (re_lst (ra_cons re_int (ra_cons re_int (ra_cons re_int (ra_cons re_str (ra_cons re_str ra_nil))))))) (rg_name sc_law.nd) (rss_one (rs_for PassesOwn.never rfl (ri_seq (re_call (ok_law_stacks T) (hr.mono (by decide)) (by rfl) T.g_law_stacks T.F_law_stacks.kp T.b_law_stacks (ra_cons re_int ra_nil) (consA_len (fun _ _ _ _ h => nilA_len h)))) (rg_name sc_law.nd) (rss_cons (rs_set sc_law.nd (re_call (ok_law_accepts T) (hr.mono (by decide)) (by rfl) T.g_law_accepts T.F_law_accepts.kp T.b_law_accepts (ra_cons re_var (ra_cons (re_tup (ra_cons re_var (ra_cons re_var ra_nil))) ra_nil)) (consA_len (consA_len (fun _ _ _ _ h => nilA_len h)))))
    (rss_cons (rs_if (rt_not (rt_tru (re_call (ok_law_is T) (hr.mono (by decide)) (by rfl) T.g_law_is T.F_law_is.kp T.b_law_is (ra_cons (re_call (ok_accepts T) (hr.mono (by decide)) (by rfl) T.g_accepts T.F_accepts.kp T.b_accepts (ra_cons re_var (ra_cons (re_tup (ra_cons re_var (ra_cons re_var ra_nil))) ra_nil)) (consA_len (consA_len (fun _ _ _ _ h => nilA_len h)))) (ra_cons re_var ra_nil)) (consA_len (consA_len (fun _ _ _ _ h => nilA_len h)))))) (rss_one (rs_ret re_bl)) rss_nil)
    (rss_one (rs_for PassesOwn.never rfl (ri_seq (re_call (ok_law_next T) (hr.mono (by decide)) (by rfl) T.g_law_next T.F_law_next.kp T.b_law_next (ra_cons re_var (ra_cons (re_tup (ra_cons re_var (ra_cons re_var ra_nil))) ra_nil)) (consA_len (consA_len (fun _ _ _ _ h => nilA_len h))))) (rg_tup rfl (rgs_cons (rg_name sc_law.nd) (rgs_cons (rg_name sc_law.nd) rgs_nil))) (rss_cons (rs_set sc_law.nd (re_call (ok_law_accepts T) (hr.mono (by decide)) (by rfl) T.g_law_accepts T.F_law_accepts.kp T.b_law_accepts (ra_cons re_var (ra_cons re_var ra_nil)) (consA_len (consA_len (fun _ _ _ _ h => nilA_len h)))))
    (rss_one (rs_if (rt_w (rw_or (rt_w (rw_and (rt_tru re_var) (rw_and (rt_tru re_var) (rw_and1 (rt_not (rt_tru re_var)))))) (rw_or1 (rt_w (rw_and (rt_tru re_var) (rw_and (rt_tru re_var) (rw_and1 (rt_not (rt_tru re_var))))))))) (rss_one (rs_ret re_bl)) rss_nil))))))))))
    (rss_one (rs_ret re_bl))))))))))))))
end
noncomputable def txt_mk {K : PySem.W.Frag} {pr : Params} {h : Heap} {mg : Str → Option Value} (X : K.In h) (G : h.Ns mainGlobals mg) {c0' f0 f1 f2 f3 f4 f5 f6 f7 f8 f9 f10 f11 f12 f13 f14 f15 f16 f17 f18 f19 f20 f21 f22 f23 f24 f25 f26 : Addr}
    {od0 an0 : Option Addr} {sl0 : Array (Option Value)} {oc0 kV0 dc0 pm0 cd0 ct0 : Value}
    {od1 an1 : Option Addr} {sl1 : Array (Option Value)} {oc1 kV1 dc1 pm1 cd1 ct1 : Value}
    {od2 an2 : Option Addr} {sl2 : Array (Option Value)} {oc2 kV2 dc2 pm2 cd2 ct2 : Value}
    {od3 an3 : Option Addr} {sl3 : Array (Option Value)} {oc3 kV3 dc3 pm3 cd3 ct3 : Value}
    {od4 an4 : Option Addr} {sl4 : Array (Option Value)} {oc4 kV4 dc4 pm4 cd4 ct4 : Value}
    {od5 an5 : Option Addr} {sl5 : Array (Option Value)} {oc5 kV5 dc5 pm5 cd5 ct5 : Value}
    {od6 an6 : Option Addr} {sl6 : Array (Option Value)} {oc6 kV6 dc6 pm6 cd6 ct6 : Value}
    {od7 an7 : Option Addr} {sl7 : Array (Option Value)} {oc7 kV7 dc7 pm7 cd7 ct7 : Value}
    {od8 an8 : Option Addr} {sl8 : Array (Option Value)} {oc8 kV8 dc8 pm8 cd8 ct8 : Value}
    {od9 an9 : Option Addr} {sl9 : Array (Option Value)} {oc9 kV9 dc9 pm9 cd9 ct9 : Value}
    {od10 an10 : Option Addr} {sl10 : Array (Option Value)} {oc10 kV10 dc10 pm10 cd10 ct10 : Value}
    {od11 an11 : Option Addr} {sl11 : Array (Option Value)} {oc11 kV11 dc11 pm11 cd11 ct11 : Value}
    {od12 an12 : Option Addr} {sl12 : Array (Option Value)} {oc12 kV12 dc12 pm12 cd12 ct12 : Value}
    {od13 an13 : Option Addr} {sl13 : Array (Option Value)} {oc13 kV13 dc13 pm13 cd13 ct13 : Value}
    {od14 an14 : Option Addr} {sl14 : Array (Option Value)} {oc14 kV14 dc14 pm14 cd14 ct14 : Value}
    {od15 an15 : Option Addr} {sl15 : Array (Option Value)} {oc15 kV15 dc15 pm15 cd15 ct15 : Value}
    {od16 an16 : Option Addr} {sl16 : Array (Option Value)} {oc16 kV16 dc16 pm16 cd16 ct16 : Value}
    {od17 an17 : Option Addr} {sl17 : Array (Option Value)} {oc17 kV17 dc17 pm17 cd17 ct17 : Value}
    {od18 an18 : Option Addr} {sl18 : Array (Option Value)} {oc18 kV18 dc18 pm18 cd18 ct18 : Value}
    {od19 an19 : Option Addr} {sl19 : Array (Option Value)} {oc19 kV19 dc19 pm19 cd19 ct19 : Value}
    {od20 an20 : Option Addr} {sl20 : Array (Option Value)} {oc20 kV20 dc20 pm20 cd20 ct20 : Value}
    {od21 an21 : Option Addr} {sl21 : Array (Option Value)} {oc21 kV21 dc21 pm21 cd21 ct21 : Value}
    {od22 an22 : Option Addr} {sl22 : Array (Option Value)} {oc22 kV22 dc22 pm22 cd22 ct22 : Value}
    {od23 an23 : Option Addr} {sl23 : Array (Option Value)} {oc23 kV23 dc23 pm23 cd23 ct23 : Value}
    {od24 an24 : Option Addr} {sl24 : Array (Option Value)} {oc24 kV24 dc24 pm24 cd24 ct24 : Value}
    {od25 an25 : Option Addr} {sl25 : Array (Option Value)} {oc25 kV25 dc25 pm25 cd25 ct25 : Value}
    {od26 an26 : Option Addr} {sl26 : Array (Option Value)} {oc26 kV26 dc26 pm26 cd26 ct26 : Value}
    (cg0 : PySem.W.nsIn K mainGlobals "Ways" = some (some (.ref c0'))) (cp0 : PySem.W.plainGet K c0' Str.empty = true) (ch0 : PySem.W.hasDictIn K c0' = true) (co0 : PySem.W.plainOver K c0' = true) (cs0 : PySem.W.findIn K (.ref c0') "__setattr__" = some (some (.builtin "object.__setattr__"))) (cm0 : PySem.W.makesIn K c0' = true) (ck0 : PySem.W.keepIn K (.ref c0') = true)
    (na0 : PySem.W.findIn K (.ref c0') "_edges" = some none)
    (na1 : PySem.W.findIn K (.ref c0') "_to" = some none)
    (n0 : PySem.W.findIn K (.ref c0') "add" = some (some (.ref f0))) (i0 : PySem.W.isFn K (.ref f0) = true) (l0 : K.lookup f0 = some ⟨oc0, od0, .func (PySem.W.fnOf "add" "Ways.add" (defArgs s_Ways_add) (defBody s_Ways_add) (defScope s_Ways_add) .none kV0 dc0 pm0 an0 cd0 ct0), sl0⟩) (c0 : PySem.W.codeIn K cd0 "Ways.add" = true) (k0 : PySem.W.keepIn K (.ref f0) = true)
    (n1 : PySem.W.findIn K (.ref c0') "__init__" = some (some (.ref f1))) (i1 : PySem.W.isFn K (.ref f1) = true) (l1 : K.lookup f1 = some ⟨oc1, od1, .func (PySem.W.fnOf "__init__" "Ways.__init__" (defArgs s_Ways_init) (defBody s_Ways_init) (defScope s_Ways_init) .none kV1 dc1 pm1 an1 cd1 ct1), sl1⟩) (c1 : PySem.W.codeIn K cd1 "Ways.__init__" = true) (k1 : PySem.W.keepIn K (.ref f1) = true)
    (n2 : PySem.W.findIn K (.ref c0') "after" = some (some (.ref f2))) (i2 : PySem.W.isFn K (.ref f2) = true) (l2 : K.lookup f2 = some ⟨oc2, od2, .func (PySem.W.fnOf "after" "Ways.after" (defArgs s_Ways_after) (defBody s_Ways_after) (defScope s_Ways_after) .none kV2 dc2 pm2 an2 cd2 ct2), sl2⟩) (c2 : PySem.W.codeIn K cd2 "Ways.after" = true) (k2 : PySem.W.keepIn K (.ref f2) = true)
    (n3 : PySem.W.findIn K (.ref c0') "freely" = some (some (.ref f3))) (i3 : PySem.W.isFn K (.ref f3) = true) (l3 : K.lookup f3 = some ⟨oc3, od3, .func (PySem.W.fnOf "freely" "Ways.freely" (defArgs s_Ways_freely) (defBody s_Ways_freely) (defScope s_Ways_freely) .none kV3 dc3 pm3 an3 cd3 ct3), sl3⟩) (c3 : PySem.W.codeIn K cd3 "Ways.freely" = true) (k3 : PySem.W.keepIn K (.ref f3) = true)
    (n4 : PySem.W.findIn K (.ref c0') "along" = some (some (.ref f4))) (i4 : PySem.W.isFn K (.ref f4) = true) (l4 : K.lookup f4 = some ⟨oc4, od4, .func (PySem.W.fnOf "along" "Ways.along" (defArgs s_Ways_along) (defBody s_Ways_along) (defScope s_Ways_along) .none kV4 dc4 pm4 an4 cd4 ct4), sl4⟩) (c4 : PySem.W.codeIn K cd4 "Ways.along" = true) (k4 : PySem.W.keepIn K (.ref f4) = true)
    (n5 : PySem.W.nsIn K mainGlobals "accepts" = some (some (.ref f5))) (l5 : K.lookup f5 = some ⟨oc5, od5, .func (PySem.W.fnOf "accepts" "accepts" (defArgs s_accepts) (defBody s_accepts) (defScope s_accepts) .none kV5 dc5 pm5 an5 cd5 ct5), sl5⟩) (c5 : PySem.W.codeIn K cd5 "accepts" = true) (k5 : PySem.W.keepIn K (.ref f5) = true)
    (n6 : PySem.W.nsIn K mainGlobals "states_of" = some (some (.ref f6))) (l6 : K.lookup f6 = some ⟨oc6, od6, .func (PySem.W.fnOf "states_of" "states_of" (defArgs s_states_of) (defBody s_states_of) (defScope s_states_of) .none kV6 dc6 pm6 an6 cd6 ct6), sl6⟩) (c6 : PySem.W.codeIn K cd6 "states_of" = true) (k6 : PySem.W.keepIn K (.ref f6) = true)
    (n7 : PySem.W.nsIn K mainGlobals "is_plain" = some (some (.ref f7))) (l7 : K.lookup f7 = some ⟨oc7, od7, .func (PySem.W.fnOf "is_plain" "is_plain" (defArgs s_is_plain) (defBody s_is_plain) (defScope s_is_plain) .none kV7 dc7 pm7 an7 cd7 ct7), sl7⟩) (c7 : PySem.W.codeIn K cd7 "is_plain" = true) (k7 : PySem.W.keepIn K (.ref f7) = true)
    (n8 : PySem.W.nsIn K mainGlobals "backward_edges" = some (some (.ref f8))) (l8 : K.lookup f8 = some ⟨oc8, od8, .func (PySem.W.fnOf "backward_edges" "backward_edges" (defArgs s_backward_edges) (defBody s_backward_edges) (defScope s_backward_edges) .none kV8 dc8 pm8 an8 cd8 ct8), sl8⟩) (c8 : PySem.W.codeIn K cd8 "backward_edges" = true) (k8 : PySem.W.keepIn K (.ref f8) = true)
    (n9 : PySem.W.nsIn K mainGlobals "takes_backwards" = some (some (.ref f9))) (l9 : K.lookup f9 = some ⟨oc9, od9, .func (PySem.W.fnOf "takes_backwards" "takes_backwards" (defArgs s_takes_backwards) (defBody s_takes_backwards) (defScope s_takes_backwards) .none kV9 dc9 pm9 an9 cd9 ct9), sl9⟩) (c9 : PySem.W.codeIn K cd9 "takes_backwards" = true) (k9 : PySem.W.keepIn K (.ref f9) = true)
    (n10 : PySem.W.nsIn K mainGlobals "is_followed" = some (some (.ref f10))) (l10 : K.lookup f10 = some ⟨oc10, od10, .func (PySem.W.fnOf "is_followed" "is_followed" (defArgs s_is_followed) (defBody s_is_followed) (defScope s_is_followed) .none kV10 dc10 pm10 an10 cd10 ct10), sl10⟩) (c10 : PySem.W.codeIn K cd10 "is_followed" = true) (k10 : PySem.W.keepIn K (.ref f10) = true)
    (n11 : PySem.W.nsIn K mainGlobals "takes_forwards" = some (some (.ref f11))) (l11 : K.lookup f11 = some ⟨oc11, od11, .func (PySem.W.fnOf "takes_forwards" "takes_forwards" (defArgs s_takes_forwards) (defBody s_takes_forwards) (defScope s_takes_forwards) .none kV11 dc11 pm11 an11 cd11 ct11), sl11⟩) (c11 : PySem.W.codeIn K cd11 "takes_forwards" = true) (k11 : PySem.W.keepIn K (.ref f11) = true)
    (n12 : PySem.W.nsIn K mainGlobals "_law_start" = some (some (.ref f12))) (l12 : K.lookup f12 = some ⟨oc12, od12, .func (PySem.W.fnOf "_law_start" "_law_start" (defArgs s_law_start) (defBody s_law_start) (defScope s_law_start) .none kV12 dc12 pm12 an12 cd12 ct12), sl12⟩) (c12 : PySem.W.codeIn K cd12 "_law_start" = true) (k12 : PySem.W.keepIn K (.ref f12) = true)
    (n13 : PySem.W.nsIn K mainGlobals "_law_draw" = some (some (.ref f13))) (l13 : K.lookup f13 = some ⟨oc13, od13, .func (PySem.W.fnOf "_law_draw" "_law_draw" (defArgs s_law_draw) (defBody s_law_draw) (defScope s_law_draw) .none kV13 dc13 pm13 an13 cd13 ct13), sl13⟩) (c13 : PySem.W.codeIn K cd13 "_law_draw" = true) (k13 : PySem.W.keepIn K (.ref f13) = true)
    (n14 : PySem.W.nsIn K mainGlobals "_law_pick" = some (some (.ref f14))) (l14 : K.lookup f14 = some ⟨oc14, od14, .func (PySem.W.fnOf "_law_pick" "_law_pick" (defArgs s_law_pick) (defBody s_law_pick) (defScope s_law_pick) .none kV14 dc14 pm14 an14 cd14 ct14), sl14⟩) (c14 : PySem.W.codeIn K cd14 "_law_pick" = true) (k14 : PySem.W.keepIn K (.ref f14) = true)
    (n15 : PySem.W.nsIn K mainGlobals "_law_is" = some (some (.ref f15))) (l15 : K.lookup f15 = some ⟨oc15, od15, .func (PySem.W.fnOf "_law_is" "_law_is" (defArgs s_law_is) (defBody s_law_is) (defScope s_law_is) .none kV15 dc15 pm15 an15 cd15 ct15), sl15⟩) (c15 : PySem.W.codeIn K cd15 "_law_is" = true) (k15 : PySem.W.keepIn K (.ref f15) = true)
    (n16 : PySem.W.nsIn K mainGlobals "_law_once" = some (some (.ref f16))) (l16 : K.lookup f16 = some ⟨oc16, od16, .func (PySem.W.fnOf "_law_once" "_law_once" (defArgs s_law_once) (defBody s_law_once) (defScope s_law_once) .none kV16 dc16 pm16 an16 cd16 ct16), sl16⟩) (c16 : PySem.W.codeIn K cd16 "_law_once" = true) (k16 : PySem.W.keepIn K (.ref f16) = true)
    (n17 : PySem.W.nsIn K mainGlobals "_law_pushdown" = some (some (.ref f17))) (l17 : K.lookup f17 = some ⟨oc17, od17, .func (PySem.W.fnOf "_law_pushdown" "_law_pushdown" (defArgs s_law_pushdown) (defBody s_law_pushdown) (defScope s_law_pushdown) .none kV17 dc17 pm17 an17 cd17 ct17), sl17⟩) (c17 : PySem.W.codeIn K cd17 "_law_pushdown" = true) (k17 : PySem.W.keepIn K (.ref f17) = true)
    (n18 : PySem.W.nsIn K mainGlobals "_law_next" = some (some (.ref f18))) (l18 : K.lookup f18 = some ⟨oc18, od18, .func (PySem.W.fnOf "_law_next" "_law_next" (defArgs s_law_next) (defBody s_law_next) (defScope s_law_next) .none kV18 dc18 pm18 an18 cd18 ct18), sl18⟩) (c18 : PySem.W.codeIn K cd18 "_law_next" = true) (k18 : PySem.W.keepIn K (.ref f18) = true)
    (n19 : PySem.W.nsIn K mainGlobals "_law_machine" = some (some (.ref f19))) (l19 : K.lookup f19 = some ⟨oc19, od19, .func (PySem.W.fnOf "_law_machine" "_law_machine" (defArgs s_law_machine) (defBody s_law_machine) (defScope s_law_machine) .none kV19 dc19 pm19 an19 cd19 ct19), sl19⟩) (c19 : PySem.W.codeIn K cd19 "_law_machine" = true) (k19 : PySem.W.keepIn K (.ref f19) = true)
    (n20 : PySem.W.nsIn K mainGlobals "_law_free" = some (some (.ref f20))) (l20 : K.lookup f20 = some ⟨oc20, od20, .func (PySem.W.fnOf "_law_free" "_law_free" (defArgs s_law_free) (defBody s_law_free) (defScope s_law_free) .none kV20 dc20 pm20 an20 cd20 ct20), sl20⟩) (c20 : PySem.W.codeIn K cd20 "_law_free" = true) (k20 : PySem.W.keepIn K (.ref f20) = true)
    (n21 : PySem.W.nsIn K mainGlobals "_law_along" = some (some (.ref f21))) (l21 : K.lookup f21 = some ⟨oc21, od21, .func (PySem.W.fnOf "_law_along" "_law_along" (defArgs s_law_along) (defBody s_law_along) (defScope s_law_along) .none kV21 dc21 pm21 an21 cd21 ct21), sl21⟩) (c21 : PySem.W.codeIn K cd21 "_law_along" = true) (k21 : PySem.W.keepIn K (.ref f21) = true)
    (n22 : PySem.W.nsIn K mainGlobals "_law_accepts" = some (some (.ref f22))) (l22 : K.lookup f22 = some ⟨oc22, od22, .func (PySem.W.fnOf "_law_accepts" "_law_accepts" (defArgs s_law_accepts) (defBody s_law_accepts) (defScope s_law_accepts) .none kV22 dc22 pm22 an22 cd22 ct22), sl22⟩) (c22 : PySem.W.codeIn K cd22 "_law_accepts" = true) (k22 : PySem.W.keepIn K (.ref f22) = true)
    (n23 : PySem.W.nsIn K mainGlobals "_law_stacks" = some (some (.ref f23))) (l23 : K.lookup f23 = some ⟨oc23, od23, .func (PySem.W.fnOf "_law_stacks" "_law_stacks" (defArgs s_law_stacks) (defBody s_law_stacks) (defScope s_law_stacks) .none kV23 dc23 pm23 an23 cd23 ct23), sl23⟩) (c23 : PySem.W.codeIn K cd23 "_law_stacks" = true) (k23 : PySem.W.keepIn K (.ref f23) = true)
    (n24 : PySem.W.nsIn K mainGlobals "_law_missing" = some (some (.ref f24))) (l24 : K.lookup f24 = some ⟨oc24, od24, .func (PySem.W.fnOf "_law_missing" "_law_missing" (defArgs s_law_missing) (defBody s_law_missing) (defScope s_law_missing) .none kV24 dc24 pm24 an24 cd24 ct24), sl24⟩) (c24 : PySem.W.codeIn K cd24 "_law_missing" = true) (k24 : PySem.W.keepIn K (.ref f24) = true)
    (n25 : PySem.W.nsIn K mainGlobals "_law_forwards" = some (some (.ref f25))) (l25 : K.lookup f25 = some ⟨oc25, od25, .func (PySem.W.fnOf "_law_forwards" "_law_forwards" (defArgs s_law_forwards) (defBody s_law_forwards) (defScope s_law_forwards) .none kV25 dc25 pm25 an25 cd25 ct25), sl25⟩) (c25 : PySem.W.codeIn K cd25 "_law_forwards" = true) (k25 : PySem.W.keepIn K (.ref f25) = true)
    (n26 : PySem.W.nsIn K mainGlobals "law" = some (some (.ref f26))) (l26 : K.lookup f26 = some ⟨oc26, od26, .func (PySem.W.fnOf "law" "law" (defArgs s_law) (defBody s_law) (defScope s_law) .none kV26 dc26 pm26 an26 cd26 ct26), sl26⟩) (c26 : PySem.W.codeIn K cd26 "law" = true) (k26 : PySem.W.keepIn K (.ref f26) = true)
    (z0 : PySem.W.nsIn K mainGlobals "abs" = some none)
    (z1 : PySem.W.nsIn K mainGlobals "all" = some none)
    (z2 : PySem.W.nsIn K mainGlobals "any" = some none)
    (z3 : PySem.W.nsIn K mainGlobals "bool" = some none)
    (z4 : PySem.W.nsIn K mainGlobals "int" = some none)
    (z5 : PySem.W.nsIn K mainGlobals "isinstance" = some none)
    (z6 : PySem.W.nsIn K mainGlobals "len" = some none)
    (z7 : PySem.W.nsIn K mainGlobals "list" = some none)
    (z8 : PySem.W.nsIn K mainGlobals "range" = some none)
    (z9 : PySem.W.nsIn K mainGlobals "repr" = some none)
    (z10 : PySem.W.nsIn K mainGlobals "tuple" = some none) : Txt K pr mg where
  C_Ways := c0'
  cl_Ways := ⟨cp0, ch0, co0, cs0⟩
  gc_Ways := PySem.W.mg_of X G cg0
  na_Ways__edges := na0
  na_Ways__to := na1
  a_Ways_add := f0
  fd_Ways_add := _
  F_Ways_add := fun_mk (st := s_Ways_add) l0 c0 k0
  b_Ways_add := (fun_mk (st := s_Ways_add) l0 c0 k0).binds (ps := ["self", "edge"]) fun _ _ _ _ _ _ us hl => match us, hl with | [_, _], _ => rfl
  me_Ways_add := ⟨n0, i0, k0⟩
  a_Ways_init := f1
  fd_Ways_init := _
  F_Ways_init := fun_mk (st := s_Ways_init) l1 c1 k1
  b_Ways_init := (fun_mk (st := s_Ways_init) l1 c1 k1).binds (ps := ["self", "edges"]) fun _ _ _ _ _ _ us hl => match us, hl with | [_, _], _ => rfl
  mk_Ways := ⟨cm0, n1, i1, ck0⟩
  a_Ways_after := f2
  fd_Ways_after := _
  F_Ways_after := fun_mk (st := s_Ways_after) l2 c2 k2
  b_Ways_after := (fun_mk (st := s_Ways_after) l2 c2 k2).binds (ps := ["self", "nodes", "symbol"]) fun _ _ _ _ _ _ us hl => match us, hl with | [_, _, _], _ => rfl
  me_Ways_after := ⟨n2, i2, k2⟩
  a_Ways_freely := f3
  fd_Ways_freely := _
  F_Ways_freely := fun_mk (st := s_Ways_freely) l3 c3 k3
  b_Ways_freely := (fun_mk (st := s_Ways_freely) l3 c3 k3).binds (ps := ["self", "nodes"]) fun _ _ _ _ _ _ us hl => match us, hl with | [_, _], _ => rfl
  me_Ways_freely := ⟨n3, i3, k3⟩
  a_Ways_along := f4
  fd_Ways_along := _
  F_Ways_along := fun_mk (st := s_Ways_along) l4 c4 k4
  b_Ways_along := (fun_mk (st := s_Ways_along) l4 c4 k4).binds (ps := ["self", "nodes", "symbols"]) fun _ _ _ _ _ _ us hl => match us, hl with | [_, _, _], _ => rfl
  me_Ways_along := ⟨n4, i4, k4⟩
  a_accepts := f5
  fd_accepts := _
  F_accepts := fun_mk (st := s_accepts) l5 c5 k5
  b_accepts := (fun_mk (st := s_accepts) l5 c5 k5).binds (ps := ["machine", "configuration"]) fun _ _ _ _ _ _ us hl => match us, hl with | [_, _], _ => rfl
  g_accepts := PySem.W.mg_of X G n5
  a_states_of := f6
  fd_states_of := _
  F_states_of := fun_mk (st := s_states_of) l6 c6 k6
  b_states_of := (fun_mk (st := s_states_of) l6 c6 k6).binds (ps := ["rules"]) fun _ _ _ _ _ _ us hl => match us, hl with | [_], _ => rfl
  g_states_of := PySem.W.mg_of X G n6
  a_is_plain := f7
  fd_is_plain := _
  F_is_plain := fun_mk (st := s_is_plain) l7 c7 k7
  b_is_plain := (fun_mk (st := s_is_plain) l7 c7 k7).binds (ps := ["rules", "machine"]) fun _ _ _ _ _ _ us hl => match us, hl with | [_, _], _ => rfl
  g_is_plain := PySem.W.mg_of X G n7
  a_backward_edges := f8
  fd_backward_edges := _
  F_backward_edges := fun_mk (st := s_backward_edges) l8 c8 k8
  b_backward_edges := (fun_mk (st := s_backward_edges) l8 c8 k8).binds (ps := ["rules", "ways"]) fun _ _ _ _ _ _ us hl => match us, hl with | [_, _], _ => rfl
  g_backward_edges := PySem.W.mg_of X G n8
  a_takes_backwards := f9
  fd_takes_backwards := _
  F_takes_backwards := fun_mk (st := s_takes_backwards) l9 c9 k9
  b_takes_backwards := (fun_mk (st := s_takes_backwards) l9 c9 k9).binds (ps := ["rules", "machine"]) fun _ _ _ _ _ _ us hl => match us, hl with | [_, _], _ => rfl
  g_takes_backwards := PySem.W.mg_of X G n9
  a_is_followed := f10
  fd_is_followed := _
  F_is_followed := fun_mk (st := s_is_followed) l10 c10 k10
  b_is_followed := (fun_mk (st := s_is_followed) l10 c10 k10).binds (ps := ["ways", "rule", "node"]) fun _ _ _ _ _ _ us hl => match us, hl with | [_, _, _], _ => rfl
  g_is_followed := PySem.W.mg_of X G n10
  a_takes_forwards := f11
  fd_takes_forwards := _
  F_takes_forwards := fun_mk (st := s_takes_forwards) l11 c11 k11
  b_takes_forwards := (fun_mk (st := s_takes_forwards) l11 c11 k11).binds (ps := ["rules", "machine"]) fun _ _ _ _ _ _ us hl => match us, hl with | [_, _], _ => rfl
  g_takes_forwards := PySem.W.mg_of X G n11
  a_law_start := f12
  fd_law_start := _
  F_law_start := fun_mk (st := s_law_start) l12 c12 k12
  b_law_start := (fun_mk (st := s_law_start) l12 c12 k12).binds (ps := ["script"]) fun _ _ _ _ _ _ us hl => match us, hl with | [_], _ => rfl
  g_law_start := PySem.W.mg_of X G n12
  a_law_draw := f13
  fd_law_draw := _
  F_law_draw := fun_mk (st := s_law_draw) l13 c13 k13
  b_law_draw := (fun_mk (st := s_law_draw) l13 c13 k13).binds (ps := ["state", "bound"]) fun _ _ _ _ _ _ us hl => match us, hl with | [_, _], _ => rfl
  g_law_draw := PySem.W.mg_of X G n13
  a_law_pick := f14
  fd_law_pick := _
  F_law_pick := fun_mk (st := s_law_pick) l14 c14 k14
  b_law_pick := (fun_mk (st := s_law_pick) l14 c14 k14).binds (ps := ["state", "things"]) fun _ _ _ _ _ _ us hl => match us, hl with | [_, _], _ => rfl
  g_law_pick := PySem.W.mg_of X G n14
  a_law_is := f15
  fd_law_is := _
  F_law_is := fun_mk (st := s_law_is) l15 c15 k15
  b_law_is := (fun_mk (st := s_law_is) l15 c15 k15).binds (ps := ["actual", "due"]) fun _ _ _ _ _ _ us hl => match us, hl with | [_, _], _ => rfl
  g_law_is := PySem.W.mg_of X G n15
  a_law_once := f16
  fd_law_once := _
  F_law_once := fun_mk (st := s_law_once) l16 c16 k16
  b_law_once := (fun_mk (st := s_law_once) l16 c16 k16).binds (ps := ["things"]) fun _ _ _ _ _ _ us hl => match us, hl with | [_], _ => rfl
  g_law_once := PySem.W.mg_of X G n16
  a_law_pushdown := f17
  fd_law_pushdown := _
  F_law_pushdown := fun_mk (st := s_law_pushdown) l17 c17 k17
  b_law_pushdown := (fun_mk (st := s_law_pushdown) l17 c17 k17).binds (ps := ["state"]) fun _ _ _ _ _ _ us hl => match us, hl with | [_], _ => rfl
  g_law_pushdown := PySem.W.mg_of X G n17
  a_law_next := f18
  fd_law_next := _
  F_law_next := fun_mk (st := s_law_next) l18 c18 k18
  b_law_next := (fun_mk (st := s_law_next) l18 c18 k18).binds (ps := ["rules", "configuration"]) fun _ _ _ _ _ _ us hl => match us, hl with | [_, _], _ => rfl
  g_law_next := PySem.W.mg_of X G n18
  a_law_machine := f19
  fd_law_machine := _
  F_law_machine := fun_mk (st := s_law_machine) l19 c19 k19
  b_law_machine := (fun_mk (st := s_law_machine) l19 c19 k19).binds (ps := ["state", "plainly"]) fun _ _ _ _ _ _ us hl => match us, hl with | [_, _], _ => rfl
  g_law_machine := PySem.W.mg_of X G n19
  a_law_free := f20
  fd_law_free := _
  F_law_free := fun_mk (st := s_law_free) l20 c20 k20
  b_law_free := (fun_mk (st := s_law_free) l20 c20 k20).binds (ps := ["edges", "nodes"]) fun _ _ _ _ _ _ us hl => match us, hl with | [_, _], _ => rfl
  g_law_free := PySem.W.mg_of X G n20
  a_law_along := f21
  fd_law_along := _
  F_law_along := fun_mk (st := s_law_along) l21 c21 k21
  b_law_along := (fun_mk (st := s_law_along) l21 c21 k21).binds (ps := ["edges", "nodes", "symbols"]) fun _ _ _ _ _ _ us hl => match us, hl with | [_, _, _], _ => rfl
  g_law_along := PySem.W.mg_of X G n21
  a_law_accepts := f22
  fd_law_accepts := _
  F_law_accepts := fun_mk (st := s_law_accepts) l22 c22 k22
  b_law_accepts := (fun_mk (st := s_law_accepts) l22 c22 k22).binds (ps := ["machine", "configuration"]) fun _ _ _ _ _ _ us hl => match us, hl with | [_, _], _ => rfl
  g_law_accepts := PySem.W.mg_of X G n22
  a_law_stacks := f23
  fd_law_stacks := _
  F_law_stacks := fun_mk (st := s_law_stacks) l23 c23 k23
  b_law_stacks := (fun_mk (st := s_law_stacks) l23 c23 k23).binds (ps := ["most"]) fun _ _ _ _ _ _ us hl => match us, hl with | [_], _ => rfl
  g_law_stacks := PySem.W.mg_of X G n23
  a_law_missing := f24
  fd_law_missing := _
  F_law_missing := fun_mk (st := s_law_missing) l24 c24 k24
  b_law_missing := (fun_mk (st := s_law_missing) l24 c24 k24).binds (ps := ["rules", "edges"]) fun _ _ _ _ _ _ us hl => match us, hl with | [_, _], _ => rfl
  g_law_missing := PySem.W.mg_of X G n24
  a_law_forwards := f25
  fd_law_forwards := _
  F_law_forwards := fun_mk (st := s_law_forwards) l25 c25 k25
  b_law_forwards := (fun_mk (st := s_law_forwards) l25 c25 k25).binds (ps := ["rules", "edges"]) fun _ _ _ _ _ _ us hl => match us, hl with | [_, _], _ => rfl
  g_law_forwards := PySem.W.mg_of X G n25
  a_law := f26
  fd_law := _
  F_law := fun_mk (st := s_law) l26 c26 k26
  b_law := (fun_mk (st := s_law) l26 c26 k26).binds (ps := ["script"]) fun _ _ _ _ _ _ us hl => match us, hl with | [_], _ => rfl
  g_law := PySem.W.mg_of X G n26
  z_abs := PySem.W.mg_none_of X G z0
  z_all := PySem.W.mg_none_of X G z1
  z_any := PySem.W.mg_none_of X G z2
  z_bool := PySem.W.mg_none_of X G z3
  z_int := PySem.W.mg_none_of X G z4
  z_isinstance := PySem.W.mg_none_of X G z5
  z_len := PySem.W.mg_none_of X G z6
  z_list := PySem.W.mg_none_of X G z7
  z_range := PySem.W.mg_none_of X G z8
  z_repr := PySem.W.mg_none_of X G z9
  z_tuple := PySem.W.mg_none_of X G z10
abbrev LC : Type := Addr
noncomputable def FL : LC → FM := fun c => F_law c
noncomputable def sp_law (K : PySem.W.Frag) (w : World) : Sp := spC K w 1 FL
theorem all_mk {l : PySem.W.OpenLaw} {w : World} {K : PySem.W.Frag} {h : Heap} {mg : Str → Option Value} {fa c0' f0 f1 f2 f3 f4 f5 f6 f7 f8 f9 f10 f11 f12 f13 f14 f15 f16 f17 f18 f19 f20 f21 f22 f23 f24 f25 f26 : Addr} (X : K.In h) (G : h.Ns mainGlobals mg) (hfa : mg "law" = some (.ref fa))
    {od0 an0 : Option Addr} {sl0 : Array (Option Value)} {oc0 kV0 dc0 pm0 cd0 ct0 : Value}
    {od1 an1 : Option Addr} {sl1 : Array (Option Value)} {oc1 kV1 dc1 pm1 cd1 ct1 : Value}
    {od2 an2 : Option Addr} {sl2 : Array (Option Value)} {oc2 kV2 dc2 pm2 cd2 ct2 : Value}
    {od3 an3 : Option Addr} {sl3 : Array (Option Value)} {oc3 kV3 dc3 pm3 cd3 ct3 : Value}
    {od4 an4 : Option Addr} {sl4 : Array (Option Value)} {oc4 kV4 dc4 pm4 cd4 ct4 : Value}
    {od5 an5 : Option Addr} {sl5 : Array (Option Value)} {oc5 kV5 dc5 pm5 cd5 ct5 : Value}
    {od6 an6 : Option Addr} {sl6 : Array (Option Value)} {oc6 kV6 dc6 pm6 cd6 ct6 : Value}
    {od7 an7 : Option Addr} {sl7 : Array (Option Value)} {oc7 kV7 dc7 pm7 cd7 ct7 : Value}
    {od8 an8 : Option Addr} {sl8 : Array (Option Value)} {oc8 kV8 dc8 pm8 cd8 ct8 : Value}
    {od9 an9 : Option Addr} {sl9 : Array (Option Value)} {oc9 kV9 dc9 pm9 cd9 ct9 : Value}
    {od10 an10 : Option Addr} {sl10 : Array (Option Value)} {oc10 kV10 dc10 pm10 cd10 ct10 : Value}
    {od11 an11 : Option Addr} {sl11 : Array (Option Value)} {oc11 kV11 dc11 pm11 cd11 ct11 : Value}
    {od12 an12 : Option Addr} {sl12 : Array (Option Value)} {oc12 kV12 dc12 pm12 cd12 ct12 : Value}
    {od13 an13 : Option Addr} {sl13 : Array (Option Value)} {oc13 kV13 dc13 pm13 cd13 ct13 : Value}
    {od14 an14 : Option Addr} {sl14 : Array (Option Value)} {oc14 kV14 dc14 pm14 cd14 ct14 : Value}
    {od15 an15 : Option Addr} {sl15 : Array (Option Value)} {oc15 kV15 dc15 pm15 cd15 ct15 : Value}
    {od16 an16 : Option Addr} {sl16 : Array (Option Value)} {oc16 kV16 dc16 pm16 cd16 ct16 : Value}
    {od17 an17 : Option Addr} {sl17 : Array (Option Value)} {oc17 kV17 dc17 pm17 cd17 ct17 : Value}
    {od18 an18 : Option Addr} {sl18 : Array (Option Value)} {oc18 kV18 dc18 pm18 cd18 ct18 : Value}
    {od19 an19 : Option Addr} {sl19 : Array (Option Value)} {oc19 kV19 dc19 pm19 cd19 ct19 : Value}
    {od20 an20 : Option Addr} {sl20 : Array (Option Value)} {oc20 kV20 dc20 pm20 cd20 ct20 : Value}
    {od21 an21 : Option Addr} {sl21 : Array (Option Value)} {oc21 kV21 dc21 pm21 cd21 ct21 : Value}
    {od22 an22 : Option Addr} {sl22 : Array (Option Value)} {oc22 kV22 dc22 pm22 cd22 ct22 : Value}
    {od23 an23 : Option Addr} {sl23 : Array (Option Value)} {oc23 kV23 dc23 pm23 cd23 ct23 : Value}
    {od24 an24 : Option Addr} {sl24 : Array (Option Value)} {oc24 kV24 dc24 pm24 cd24 ct24 : Value}
    {od25 an25 : Option Addr} {sl25 : Array (Option Value)} {oc25 kV25 dc25 pm25 cd25 ct25 : Value}
    {od26 an26 : Option Addr} {sl26 : Array (Option Value)} {oc26 kV26 dc26 pm26 cd26 ct26 : Value}
    (cg0 : PySem.W.nsIn K mainGlobals "Ways" = some (some (.ref c0'))) (cp0 : PySem.W.plainGet K c0' Str.empty = true) (ch0 : PySem.W.hasDictIn K c0' = true) (co0 : PySem.W.plainOver K c0' = true) (cs0 : PySem.W.findIn K (.ref c0') "__setattr__" = some (some (.builtin "object.__setattr__"))) (cm0 : PySem.W.makesIn K c0' = true) (ck0 : PySem.W.keepIn K (.ref c0') = true)
    (na0 : PySem.W.findIn K (.ref c0') "_edges" = some none)
    (na1 : PySem.W.findIn K (.ref c0') "_to" = some none)
    (n0 : PySem.W.findIn K (.ref c0') "add" = some (some (.ref f0))) (i0 : PySem.W.isFn K (.ref f0) = true) (l0 : K.lookup f0 = some ⟨oc0, od0, .func (PySem.W.fnOf "add" "Ways.add" (defArgs s_Ways_add) (defBody s_Ways_add) (defScope s_Ways_add) .none kV0 dc0 pm0 an0 cd0 ct0), sl0⟩) (c0 : PySem.W.codeIn K cd0 "Ways.add" = true) (k0 : PySem.W.keepIn K (.ref f0) = true)
    (n1 : PySem.W.findIn K (.ref c0') "__init__" = some (some (.ref f1))) (i1 : PySem.W.isFn K (.ref f1) = true) (l1 : K.lookup f1 = some ⟨oc1, od1, .func (PySem.W.fnOf "__init__" "Ways.__init__" (defArgs s_Ways_init) (defBody s_Ways_init) (defScope s_Ways_init) .none kV1 dc1 pm1 an1 cd1 ct1), sl1⟩) (c1 : PySem.W.codeIn K cd1 "Ways.__init__" = true) (k1 : PySem.W.keepIn K (.ref f1) = true)
    (n2 : PySem.W.findIn K (.ref c0') "after" = some (some (.ref f2))) (i2 : PySem.W.isFn K (.ref f2) = true) (l2 : K.lookup f2 = some ⟨oc2, od2, .func (PySem.W.fnOf "after" "Ways.after" (defArgs s_Ways_after) (defBody s_Ways_after) (defScope s_Ways_after) .none kV2 dc2 pm2 an2 cd2 ct2), sl2⟩) (c2 : PySem.W.codeIn K cd2 "Ways.after" = true) (k2 : PySem.W.keepIn K (.ref f2) = true)
    (n3 : PySem.W.findIn K (.ref c0') "freely" = some (some (.ref f3))) (i3 : PySem.W.isFn K (.ref f3) = true) (l3 : K.lookup f3 = some ⟨oc3, od3, .func (PySem.W.fnOf "freely" "Ways.freely" (defArgs s_Ways_freely) (defBody s_Ways_freely) (defScope s_Ways_freely) .none kV3 dc3 pm3 an3 cd3 ct3), sl3⟩) (c3 : PySem.W.codeIn K cd3 "Ways.freely" = true) (k3 : PySem.W.keepIn K (.ref f3) = true)
    (n4 : PySem.W.findIn K (.ref c0') "along" = some (some (.ref f4))) (i4 : PySem.W.isFn K (.ref f4) = true) (l4 : K.lookup f4 = some ⟨oc4, od4, .func (PySem.W.fnOf "along" "Ways.along" (defArgs s_Ways_along) (defBody s_Ways_along) (defScope s_Ways_along) .none kV4 dc4 pm4 an4 cd4 ct4), sl4⟩) (c4 : PySem.W.codeIn K cd4 "Ways.along" = true) (k4 : PySem.W.keepIn K (.ref f4) = true)
    (n5 : PySem.W.nsIn K mainGlobals "accepts" = some (some (.ref f5))) (l5 : K.lookup f5 = some ⟨oc5, od5, .func (PySem.W.fnOf "accepts" "accepts" (defArgs s_accepts) (defBody s_accepts) (defScope s_accepts) .none kV5 dc5 pm5 an5 cd5 ct5), sl5⟩) (c5 : PySem.W.codeIn K cd5 "accepts" = true) (k5 : PySem.W.keepIn K (.ref f5) = true)
    (n6 : PySem.W.nsIn K mainGlobals "states_of" = some (some (.ref f6))) (l6 : K.lookup f6 = some ⟨oc6, od6, .func (PySem.W.fnOf "states_of" "states_of" (defArgs s_states_of) (defBody s_states_of) (defScope s_states_of) .none kV6 dc6 pm6 an6 cd6 ct6), sl6⟩) (c6 : PySem.W.codeIn K cd6 "states_of" = true) (k6 : PySem.W.keepIn K (.ref f6) = true)
    (n7 : PySem.W.nsIn K mainGlobals "is_plain" = some (some (.ref f7))) (l7 : K.lookup f7 = some ⟨oc7, od7, .func (PySem.W.fnOf "is_plain" "is_plain" (defArgs s_is_plain) (defBody s_is_plain) (defScope s_is_plain) .none kV7 dc7 pm7 an7 cd7 ct7), sl7⟩) (c7 : PySem.W.codeIn K cd7 "is_plain" = true) (k7 : PySem.W.keepIn K (.ref f7) = true)
    (n8 : PySem.W.nsIn K mainGlobals "backward_edges" = some (some (.ref f8))) (l8 : K.lookup f8 = some ⟨oc8, od8, .func (PySem.W.fnOf "backward_edges" "backward_edges" (defArgs s_backward_edges) (defBody s_backward_edges) (defScope s_backward_edges) .none kV8 dc8 pm8 an8 cd8 ct8), sl8⟩) (c8 : PySem.W.codeIn K cd8 "backward_edges" = true) (k8 : PySem.W.keepIn K (.ref f8) = true)
    (n9 : PySem.W.nsIn K mainGlobals "takes_backwards" = some (some (.ref f9))) (l9 : K.lookup f9 = some ⟨oc9, od9, .func (PySem.W.fnOf "takes_backwards" "takes_backwards" (defArgs s_takes_backwards) (defBody s_takes_backwards) (defScope s_takes_backwards) .none kV9 dc9 pm9 an9 cd9 ct9), sl9⟩) (c9 : PySem.W.codeIn K cd9 "takes_backwards" = true) (k9 : PySem.W.keepIn K (.ref f9) = true)
    (n10 : PySem.W.nsIn K mainGlobals "is_followed" = some (some (.ref f10))) (l10 : K.lookup f10 = some ⟨oc10, od10, .func (PySem.W.fnOf "is_followed" "is_followed" (defArgs s_is_followed) (defBody s_is_followed) (defScope s_is_followed) .none kV10 dc10 pm10 an10 cd10 ct10), sl10⟩) (c10 : PySem.W.codeIn K cd10 "is_followed" = true) (k10 : PySem.W.keepIn K (.ref f10) = true)
    (n11 : PySem.W.nsIn K mainGlobals "takes_forwards" = some (some (.ref f11))) (l11 : K.lookup f11 = some ⟨oc11, od11, .func (PySem.W.fnOf "takes_forwards" "takes_forwards" (defArgs s_takes_forwards) (defBody s_takes_forwards) (defScope s_takes_forwards) .none kV11 dc11 pm11 an11 cd11 ct11), sl11⟩) (c11 : PySem.W.codeIn K cd11 "takes_forwards" = true) (k11 : PySem.W.keepIn K (.ref f11) = true)
    (n12 : PySem.W.nsIn K mainGlobals "_law_start" = some (some (.ref f12))) (l12 : K.lookup f12 = some ⟨oc12, od12, .func (PySem.W.fnOf "_law_start" "_law_start" (defArgs s_law_start) (defBody s_law_start) (defScope s_law_start) .none kV12 dc12 pm12 an12 cd12 ct12), sl12⟩) (c12 : PySem.W.codeIn K cd12 "_law_start" = true) (k12 : PySem.W.keepIn K (.ref f12) = true)
    (n13 : PySem.W.nsIn K mainGlobals "_law_draw" = some (some (.ref f13))) (l13 : K.lookup f13 = some ⟨oc13, od13, .func (PySem.W.fnOf "_law_draw" "_law_draw" (defArgs s_law_draw) (defBody s_law_draw) (defScope s_law_draw) .none kV13 dc13 pm13 an13 cd13 ct13), sl13⟩) (c13 : PySem.W.codeIn K cd13 "_law_draw" = true) (k13 : PySem.W.keepIn K (.ref f13) = true)
    (n14 : PySem.W.nsIn K mainGlobals "_law_pick" = some (some (.ref f14))) (l14 : K.lookup f14 = some ⟨oc14, od14, .func (PySem.W.fnOf "_law_pick" "_law_pick" (defArgs s_law_pick) (defBody s_law_pick) (defScope s_law_pick) .none kV14 dc14 pm14 an14 cd14 ct14), sl14⟩) (c14 : PySem.W.codeIn K cd14 "_law_pick" = true) (k14 : PySem.W.keepIn K (.ref f14) = true)
    (n15 : PySem.W.nsIn K mainGlobals "_law_is" = some (some (.ref f15))) (l15 : K.lookup f15 = some ⟨oc15, od15, .func (PySem.W.fnOf "_law_is" "_law_is" (defArgs s_law_is) (defBody s_law_is) (defScope s_law_is) .none kV15 dc15 pm15 an15 cd15 ct15), sl15⟩) (c15 : PySem.W.codeIn K cd15 "_law_is" = true) (k15 : PySem.W.keepIn K (.ref f15) = true)
    (n16 : PySem.W.nsIn K mainGlobals "_law_once" = some (some (.ref f16))) (l16 : K.lookup f16 = some ⟨oc16, od16, .func (PySem.W.fnOf "_law_once" "_law_once" (defArgs s_law_once) (defBody s_law_once) (defScope s_law_once) .none kV16 dc16 pm16 an16 cd16 ct16), sl16⟩) (c16 : PySem.W.codeIn K cd16 "_law_once" = true) (k16 : PySem.W.keepIn K (.ref f16) = true)
    (n17 : PySem.W.nsIn K mainGlobals "_law_pushdown" = some (some (.ref f17))) (l17 : K.lookup f17 = some ⟨oc17, od17, .func (PySem.W.fnOf "_law_pushdown" "_law_pushdown" (defArgs s_law_pushdown) (defBody s_law_pushdown) (defScope s_law_pushdown) .none kV17 dc17 pm17 an17 cd17 ct17), sl17⟩) (c17 : PySem.W.codeIn K cd17 "_law_pushdown" = true) (k17 : PySem.W.keepIn K (.ref f17) = true)
    (n18 : PySem.W.nsIn K mainGlobals "_law_next" = some (some (.ref f18))) (l18 : K.lookup f18 = some ⟨oc18, od18, .func (PySem.W.fnOf "_law_next" "_law_next" (defArgs s_law_next) (defBody s_law_next) (defScope s_law_next) .none kV18 dc18 pm18 an18 cd18 ct18), sl18⟩) (c18 : PySem.W.codeIn K cd18 "_law_next" = true) (k18 : PySem.W.keepIn K (.ref f18) = true)
    (n19 : PySem.W.nsIn K mainGlobals "_law_machine" = some (some (.ref f19))) (l19 : K.lookup f19 = some ⟨oc19, od19, .func (PySem.W.fnOf "_law_machine" "_law_machine" (defArgs s_law_machine) (defBody s_law_machine) (defScope s_law_machine) .none kV19 dc19 pm19 an19 cd19 ct19), sl19⟩) (c19 : PySem.W.codeIn K cd19 "_law_machine" = true) (k19 : PySem.W.keepIn K (.ref f19) = true)
    (n20 : PySem.W.nsIn K mainGlobals "_law_free" = some (some (.ref f20))) (l20 : K.lookup f20 = some ⟨oc20, od20, .func (PySem.W.fnOf "_law_free" "_law_free" (defArgs s_law_free) (defBody s_law_free) (defScope s_law_free) .none kV20 dc20 pm20 an20 cd20 ct20), sl20⟩) (c20 : PySem.W.codeIn K cd20 "_law_free" = true) (k20 : PySem.W.keepIn K (.ref f20) = true)
    (n21 : PySem.W.nsIn K mainGlobals "_law_along" = some (some (.ref f21))) (l21 : K.lookup f21 = some ⟨oc21, od21, .func (PySem.W.fnOf "_law_along" "_law_along" (defArgs s_law_along) (defBody s_law_along) (defScope s_law_along) .none kV21 dc21 pm21 an21 cd21 ct21), sl21⟩) (c21 : PySem.W.codeIn K cd21 "_law_along" = true) (k21 : PySem.W.keepIn K (.ref f21) = true)
    (n22 : PySem.W.nsIn K mainGlobals "_law_accepts" = some (some (.ref f22))) (l22 : K.lookup f22 = some ⟨oc22, od22, .func (PySem.W.fnOf "_law_accepts" "_law_accepts" (defArgs s_law_accepts) (defBody s_law_accepts) (defScope s_law_accepts) .none kV22 dc22 pm22 an22 cd22 ct22), sl22⟩) (c22 : PySem.W.codeIn K cd22 "_law_accepts" = true) (k22 : PySem.W.keepIn K (.ref f22) = true)
    (n23 : PySem.W.nsIn K mainGlobals "_law_stacks" = some (some (.ref f23))) (l23 : K.lookup f23 = some ⟨oc23, od23, .func (PySem.W.fnOf "_law_stacks" "_law_stacks" (defArgs s_law_stacks) (defBody s_law_stacks) (defScope s_law_stacks) .none kV23 dc23 pm23 an23 cd23 ct23), sl23⟩) (c23 : PySem.W.codeIn K cd23 "_law_stacks" = true) (k23 : PySem.W.keepIn K (.ref f23) = true)
    (n24 : PySem.W.nsIn K mainGlobals "_law_missing" = some (some (.ref f24))) (l24 : K.lookup f24 = some ⟨oc24, od24, .func (PySem.W.fnOf "_law_missing" "_law_missing" (defArgs s_law_missing) (defBody s_law_missing) (defScope s_law_missing) .none kV24 dc24 pm24 an24 cd24 ct24), sl24⟩) (c24 : PySem.W.codeIn K cd24 "_law_missing" = true) (k24 : PySem.W.keepIn K (.ref f24) = true)
    (n25 : PySem.W.nsIn K mainGlobals "_law_forwards" = some (some (.ref f25))) (l25 : K.lookup f25 = some ⟨oc25, od25, .func (PySem.W.fnOf "_law_forwards" "_law_forwards" (defArgs s_law_forwards) (defBody s_law_forwards) (defScope s_law_forwards) .none kV25 dc25 pm25 an25 cd25 ct25), sl25⟩) (c25 : PySem.W.codeIn K cd25 "_law_forwards" = true) (k25 : PySem.W.keepIn K (.ref f25) = true)
    (n26 : PySem.W.nsIn K mainGlobals "law" = some (some (.ref f26))) (l26 : K.lookup f26 = some ⟨oc26, od26, .func (PySem.W.fnOf "law" "law" (defArgs s_law) (defBody s_law) (defScope s_law) .none kV26 dc26 pm26 an26 cd26 ct26), sl26⟩) (c26 : PySem.W.codeIn K cd26 "law" = true) (k26 : PySem.W.keepIn K (.ref f26) = true)
    (z0 : PySem.W.nsIn K mainGlobals "abs" = some none)
    (z1 : PySem.W.nsIn K mainGlobals "all" = some none)
    (z2 : PySem.W.nsIn K mainGlobals "any" = some none)
    (z3 : PySem.W.nsIn K mainGlobals "bool" = some none)
    (z4 : PySem.W.nsIn K mainGlobals "int" = some none)
    (z5 : PySem.W.nsIn K mainGlobals "isinstance" = some none)
    (z6 : PySem.W.nsIn K mainGlobals "len" = some none)
    (z7 : PySem.W.nsIn K mainGlobals "list" = some none)
    (z8 : PySem.W.nsIn K mainGlobals "range" = some none)
    (z9 : PySem.W.nsIn K mainGlobals "repr" = some none)
    (z10 : PySem.W.nsIn K mainGlobals "tuple" = some none) :
    ∃ fd : FuncData, (∀ (s : Shared) (v : Value), BindsTo s fd ⟨[v], []⟩ [("script", v)]) ∧ ∀ base : Heap, K.In base → base.Ns mainGlobals mg → FnAt callerA l.prog w K mg base CX0 fa fd ["script"] (sp_law K w) := by
  have e := hfa.symm.trans (PySem.W.mg_of X G n26)
  cases e
  exact ⟨PySem.W.fnOf "law" "law" (defArgs s_law) (defBody s_law) (defScope s_law) .none kV26 dc26 pm26 an26 cd26 ct26, fun s v => .of_eq rfl, fun base _ _ => (ok_law (txt_mk (pr := w.params) X G cg0 cp0 ch0 co0 cs0 cm0 ck0 na0 na1 n0 i0 l0 c0 k0 n1 i1 l1 c1 k1 n2 i2 l2 c2 k2 n3 i3 l3 c3 k3 n4 i4 l4 c4 k4 n5 l5 c5 k5 n6 l6 c6 k6 n7 l7 c7 k7 n8 l8 c8 k8 n9 l9 c9 k9 n10 l10 c10 k10 n11 l11 c11 k11 n12 l12 c12 k12 n13 l13 c13 k13 n14 l14 c14 k14 n15 l15 c15 k15 n16 l16 c16 k16 n17 l17 c17 k17 n18 l18 c18 k18 n19 l19 c19 k19 n20 l20 c20 k20 n21 l21 c21 k21 n22 l22 c22 k22 n23 l23 c23 k23 n24 l24 c24 k24 n25 l25 c25 k25 n26 l26 c26 k26 z0 z1 z2 z3 z4 z5 z6 z7 z8 z9 z10)).imp fun _ _ _ _ z => z (_)⟩
end K05
/-! Law k05 in plain Lean: the defs. -/
namespace K05
open PySem PySem.Spec PyProof.Rows L2 DL Ev Vc Sh
theorem eq_add : F_Ways_add = Sh.F_Ways_add := rfl
theorem eq_init : F_Ways_init = Sh.F_Ways_init := rfl
theorem eq_accepts : F_accepts = Sh.F_accepts := rfl
theorem eq_backward : F_backward_edges = Sh.F_backward_edges := rfl
theorem eq_takes : F_takes_backwards = Sh.F_takes_backwards := rfl
theorem need_in {N : Uni} {E : List Ed} {rs : List Ru} (hE : EdIn N E) (hR : RuIn N rs) {e : Ed} (h : NeedR E rs e) : e.1 ∈ N.U ∧ e.2.1 ∈ N.S ∧ e.2.2 ∈ N.U := by
  obtain ⟨r, hr, h1, h2, h3⟩ := h
  obtain ⟨i1, i2, i3, i4, _⟩ := hR.mem r hr
  rw [h1, h2]
  exact ⟨i1, i2, along_in hE i3 h3⟩
theorem mem_edK {E : List Ed} {e : Ed} : edK e ∈ E.map edK ↔ e ∈ E := ⟨fun h => by
  obtain ⟨x, hx, h⟩ := List.mem_map.mp h
  rw [← edK_inj h]; exact hx, fun h => List.mem_map_of_mem h⟩
theorem in_edT {N : Uni} (hN : N.Ok) {X : List Ed} (hX : EdIn N X) {e : Ed} (he : e.1 ∈ N.U ∧ e.2.1 ∈ N.S ∧ e.2.2 ∈ N.U) (M : Mem) : inO M (toD (edK e)) (.tup (eds X)) = some (decide (e ∈ X)) := by
  have := inO_kT (M := M) (a := edK e) (ks := X.map edK) (edK_kz hN he).1.toKx fun k hk => by
    obtain ⟨x, hx, rfl⟩ := List.mem_map.mp hk
    exact (edK_kz hN (hX.mem x hx)).1.toKx
  rw [eds_map, this]
  congr 1
  by_cases h : e ∈ X
  · rw [decide_eq_true h, decide_eq_true (mem_edK.mpr h)]
  · rw [decide_eq_false h, decide_eq_false fun z => h (mem_edK.mp z)]
theorem ruD (r : Ru) : toD (ruK r) = .tup [toD r.p, toD r.s, toD r.q, .tup (r.w.map toD), .int r.m] := by
  show Dt.tup [toD r.p, toD r.s, toD r.q, .tup (toDs r.w), .int r.m] = _
  rw [toDs_map]
/-! ### states, plain machines -/
def sts (rs : List Ru) : List NestedKey := rs.flatMap fun r => [r.p, r.q]
theorem kInF {M : Mem} {D : KD} {k : NestedKey} {Q : Dt → Mem → Prop} (hk : k.depth ≤ 8) (h : Q (.bl (kget D k).isSome) M) : Wp (inD (toD k) (.dic (kks D) (kvs D)) M) Q := by
  refine inW ?_ h
  unfold inO
  simp only [dictAt, keyN_toD hk, Option.map_some, kget_isSome]
theorem once_app (l : List NestedKey) (a b : NestedKey) : once (l ++ [a, b]) = insK (insK (once l) a) b := by
  have e : l ++ [a, b] = (l ++ [a]) ++ [b] := by simp
  rw [e, once_snoc, once_snoc]
theorem states_ok {N : Uni} (hN : N.Ok) {rs : List Ru} (hR : RuIn N rs) (hrl : rs.length ≤ 30) (M : Mem) : F_states_of [.tup (rus rs)] M = some (.dic (kks (dk (once (sts rs)))) (kvs (dk (once (sts rs)))), M) := by
  refine Vc.pureFn (fun n => cl_dk n _) ?_
  show WS (m_states_of [some (.tup (rus rs)), none, none, none, none] M) _
  unfold m_states_of
  walk_at "vc"
  refine Vc.loop (f := fun r => toD (ruK r)) (xs := rs) (fun pre e M1 => (∃ e2 e3 e4, e = [some (.tup (rus rs)), some (.ref M.length), e2, e3, e4]) ∧ Pfx M M1 ∧ M1[M.length]? = some (some (kdD (dk (once (sts pre)))))) ?_ ?_ ?_
  · exact ⟨⟨_, _, _, rfl⟩, Pfx.refl.app, getL⟩
  · rintro pre r post e M1 hx ⟨⟨e2, e3, e4, rfl⟩, hp, g⟩
    have hr : r ∈ rs := by rw [hx]; simp
    obtain ⟨i1, i2, i3, i4, _⟩ := hR.mem r hr
    have hpl : pre.length < rs.length := by rw [hx]; simp
    have hol := once_len (sts pre)
    have hsl : (sts pre).length = 2 * pre.length := by
      unfold sts
      clear hx hpl hol g
      induction pre with
      | nil => rfl
      | cons a t ih => rw [List.flatMap_cons, List.length_append, ih]; simp; omega
    have hil := insK_len (once (sts pre)) r.p
    have d1 := (hN.un _ i1).2
    have d3 := (hN.un _ i3).2
    rw [ruD]
    refine ⟨trivial, ?_⟩
    walk_at "vc"
    refine Vc.kSt g (by omega) (by rw [dk_len]; omega) ?_
    rw [dk_put]
    walk_at "vc"
    refine Vc.kSt (getS g) (by omega) (by rw [dk_len]; omega) ?_
    rw [dk_put]
    walk_at "vc"
    refine ⟨⟨_, _, _, rfl⟩, (hp.set (Nat.le_refl _)).set (Nat.le_refl _), ?_⟩
    rw [getS (getS g)]
    congr 4
    unfold sts
    rw [List.flatMap_append, List.flatMap_cons, List.flatMap_nil, List.append_nil, once_app]
  · rintro e M1 ⟨⟨e2, e3, e4, rfl⟩, hp, g⟩
    refine ⟨trivial, ?_⟩
    walk_at "vc"
    exact ⟨rfl, hp.set (Nat.le_refl _)⟩
/-- no edge leads to a state -/
def PlainR (E : List Ed) (rs : List Ru) : Prop := ∀ e ∈ E, e.2.2 ∉ sts rs
theorem plain_ok {N : Uni} (hN : N.Ok) {E : List Ed} (hE : EdIn N E) (hl : E.length ≤ 900) {F : List NestedKey} {rs : List Ru} (hR : RuIn N rs) (hrl : rs.length ≤ 30) (M : Mem) : ∃ b, F_is_plain [.tup (rus rs), macD E F] M = some (.bl b, M) ∧ (b = true ↔ PlainR E rs) := by
  have main : ∃ d, F_is_plain [.tup (rus rs), macD E F] M = some (d, M) ∧ ∃ b, d = .bl b ∧ (b = true ↔ PlainR E rs) := by
    refine pureEx ?_
    show WS (m_is_plain [some (.tup (rus rs)), some (macD E F), none, none, none] M) _
    have hs := states_ok hN hR hrl M
    unfold m_is_plain macD
    walk_at "vc"
    refine Vc.lcMap (f := fun e => toD (edK e)) (xs := E) (fun e => .bl (decide (e.2.2 ∈ once (sts rs)))) (by omega) trivial ?_ ?_
    · rintro ⟨a, s, t⟩ he
      have ht := (hN.un _ (hE.mem _ he).2.2).2
      refine ⟨_, rfl, ?_⟩
      walk_at "vc"
      refine kInF (by omega) ?_
      rw [dk_some]
      exact ⟨rfl, rfl⟩
    · walk_at "vc"
      rw [show (E.map fun e => Dt.bl (decide (e.2.2 ∈ once (sts rs)))) = (E.map fun e => decide (e.2.2 ∈ once (sts rs))).map .bl from by rw [List.map_map]; rfl]
      refine anyW ?_
      walk_at "vc"
      refine ⟨_, rfl, ⟨_, rfl, ?_⟩, by simp [DL.Cl], Pfx.refl⟩
      rw [List.any_map, Bool.not_eq_true', List.any_eq_false]
      constructor
      · intro h e he z
        exact h e he (decide_eq_true (once_mem.mpr z))
      · intro h e he z
        exact h e he (once_mem.mp (of_decide_eq_true z))
  obtain ⟨d, h1, b, rfl, h2⟩ := main
  exact ⟨b, h1, h2⟩
/-! ### closed backwards -/
theorem takesB_ok {C : Addr} {E : List Ed} {F : List NestedKey} {rs : List Ru} {N : Uni} (hN : N.Ok) (hE : EdIn N E) (hl : E.length ≤ 900) (hnd : E.Nodup) (h0 : NestedKey.none ∈ N.S) (hR : RuIn N rs) (hrl : rs.length ≤ 30) (M : Mem) :
    ∃ b, F_takes_backwards C [.tup (rus rs), macD E F] M = some (.bl b, M) ∧ (b = true ↔ Closed E rs) := by
  have main : ∃ d, F_takes_backwards C [.tup (rus rs), macD E F] M = some (d, M) ∧ ∃ b, d = .bl b ∧ (b = true ↔ Closed E rs) := by
    refine pureEx ?_
    show WS (m_takes_backwards C [some (.tup (rus rs)), some (macD E F), none, none, none] M) _
    unfold m_takes_backwards macD
    walk_at "vc"
    refine (ways_init hN hE hl hnd M rfl (fun _ _ => rfl)).mono ?_
    rintro d M1 ⟨rfl, hp1, a, b, T, hT⟩
    refine ⟨rfl, ?_⟩
    obtain ⟨B, q1, q2, q3⟩ := backward_ok hN hE hl h0 hR hrl hT.ways
    have q1' : F_backward_edges C [.tup (rus rs), .ref M.length] M1 = some (.lst (eds B), M1) := q1
    walk_at "vc"
    refine Vc.lcMap (f := fun e => toD (edK e)) (xs := B) (fun e => .bl (decide (e ∈ E))) (by omega) trivial ?_ ?_
    · intro e he
      have hin := in_edT hN hE (need_in hE hR ((q3 e).mp he)) M1
      walk_at "vc"
      exact ⟨rfl, rfl⟩
    · walk_at "vc"
      rw [show (B.map fun e => Dt.bl (decide (e ∈ E))) = (B.map fun e => decide (e ∈ E)).map .bl from by rw [List.map_map]; rfl]
      walk_at "vc"
      refine ⟨_, rfl, ⟨_, rfl, ?_⟩, by simp [DL.Cl], hp1⟩
      rw [List.all_map, List.all_eq_true]
      constructor
      · intro h e he
        exact of_decide_eq_true (h e ((q3 e).mpr he))
      · intro h e he
        exact decide_eq_true (h e ((q3 e).mp he))
  obtain ⟨d, h1, b, rfl, h2⟩ := main
  exact ⟨b, h1, h2⟩
theorem missing_ok {E : List Ed} {rs : List Ru} {N : Uni} (hN : N.Ok) (hE : EdIn N E) (hl : E.length ≤ 900) (hR : RuIn N rs) (hrl : rs.length ≤ 30) (M : Mem) :
    ∃ B : List Ed, F_law_missing [.tup (rus rs), .tup (eds E)] M = some (.lst (eds B), M) ∧ B.length ≤ 900 * rs.length ∧ ∀ e, e ∈ B ↔ NeedR E rs e ∧ e ∉ E := by
  have main : ∃ d, F_law_missing [.tup (rus rs), .tup (eds E)] M = some (d, M) ∧ ∃ B : List Ed, d = .lst (eds B) ∧ B.length ≤ 900 * rs.length ∧ ∀ e, e ∈ B ↔ NeedR E rs e ∧ e ∉ E := by
    refine pureEx ?_
    show WS (m_law_missing [some (.tup (rus rs)), some (.tup (eds E)), none, none, none, none, none, none, none, none] M) _
    unfold m_law_missing
    walk_at "vc"
    refine Vc.loop (f := fun r => toD (ruK r)) (xs := rs) (fun pre e M1 => (∃ e3 e4 e5 e6 e7 e8, e = [some (.tup (rus rs)), some (.tup (eds E)), some (.ref M.length), e3, e4, e5, e6, e7, e8, none]) ∧ Pfx M M1 ∧ ∃ B : List Ed, M1[M.length]? = some (some (.lst (eds B))) ∧ B.length ≤ 900 * pre.length ∧ ∀ e, e ∈ B ↔ NeedR E pre e ∧ e ∉ E) ?_ ?_ ?_
    · exact ⟨⟨_, _, _, _, _, _, rfl⟩, Pfx.refl.app, [], getL, Nat.le_refl _, fun e => by simp [NeedR]⟩
    · rintro pre r post e M1 hx ⟨⟨e3, e4, e5, e6, e7, e8, rfl⟩, hp, B, g2, hbl, hB⟩
      have hr : r ∈ rs := by rw [hx]; simp
      have hpl : pre.length < rs.length := by rw [hx]; simp
      obtain ⟨i1, i2, i3, i4, _⟩ := hR.mem r hr
      obtain ⟨ends, q1, q2, q3, q4⟩ := law_along_ok hN hE hl (Walks.tup (M := M1)) (ns := [r.q]) (w := r.w) (by simpa using i3) (by simp) i4
      simp only [List.map_cons, List.map_nil] at q1
      have q1' : F_law_along [.tup (eds E), .lst [toD r.q], .tup (r.w.map toD)] M1 = some (.lst (ends.map toD), M1) := q1
      rw [ruD]
      refine ⟨trivial, ?_⟩
      walk_at "vc"
      refine Vc.lcFil (f := toD) (xs := ends) (fun n => !decide ((r.p, r.s, n) ∈ E)) (fun n => toD (edK (r.p, r.s, n))) (by omega) trivial ?_ ?_
      · intro n hn
        have hin' : inO M1 (.tup [toD r.p, toD r.s, toD n]) (.tup (eds E)) = some (decide ((r.p, r.s, n) ∈ E)) := in_edT hN hE (e := (r.p, r.s, n)) ⟨i1, i2, q2 n hn⟩ M1
        walk_at "vc"
        refine ⟨rfl, rfl, fun _ => ?_⟩
        walk_at "vc"
        exact ⟨rfl, rfl⟩
      · have hfl := List.length_filter_le (fun n => !decide ((r.p, r.s, n) ∈ E)) ends
        have hel : (eds B).length = B.length := List.length_map _
        have hel2 : ((ends.filter fun n => !decide ((r.p, r.s, n) ∈ E)).map fun n => toD (edK (r.p, r.s, n))).length ≤ 900 := by rw [List.length_map]; omega
        walk_at "vc"
        refine ⟨⟨_, _, _, _, _, _, rfl⟩, hp.set (Nat.le_refl _), B ++ (ends.filter fun n => !decide ((r.p, r.s, n) ∈ E)).map fun n => (r.p, r.s, n), ?_, ?_, fun e => ?_⟩
        · rw [getS g2]
          unfold eds
          rw [List.map_append, List.map_map]
          rfl
        · rw [List.length_append, List.length_append, List.length_map, List.length_singleton]
          omega
        · rw [List.mem_append, hB, List.mem_map]
          constructor
          · rintro (⟨⟨r', h1, h2⟩, h3⟩ | ⟨n, hn, rfl⟩)
            · exact ⟨⟨r', List.mem_append_left _ h1, h2⟩, h3⟩
            · obtain ⟨hn1, hn2⟩ := List.mem_filter.mp hn
              obtain ⟨y, hy2, ha⟩ := (q4 n).mp hn1
              rw [List.mem_singleton.mp hy2] at ha
              exact ⟨⟨r, by simp, rfl, rfl, ha⟩, by simpa using hn2⟩
          · rintro ⟨⟨r', h1, h2, h3, h4⟩, h5⟩
            rcases List.mem_append.mp h1 with h1 | h1
            · exact .inl ⟨⟨r', h1, h2, h3, h4⟩, h5⟩
            · rw [List.mem_singleton.mp h1] at h2 h3 h4
              obtain ⟨x, y, z⟩ := e
              dsimp only at h2 h3 h4
              subst h2 h3
              exact .inr ⟨z, List.mem_filter.mpr ⟨(q4 z).mpr ⟨r.q, by simp, h4⟩, by simpa using h5⟩, rfl⟩
    · rintro e M1 ⟨⟨e3, e4, e5, e6, e7, e8, rfl⟩, hp, B, g2, hbl, hB⟩
      refine ⟨trivial, ?_⟩
      walk_at "vc"
      refine ⟨_, rfl, ⟨B, rfl, hbl, hB⟩, by rw [eds_map]; exact cls_toD _ _, hp.set (Nat.le_refl _)⟩
  obtain ⟨d, h1, B, rfl, h2⟩ := main
  exact ⟨B, h1, h2⟩
end K05
/-! Law k05 in plain Lean: forwards. -/
namespace K05
open PySem PySem.Spec PyProof.Rows L2 DL Ev Vc Sh
/-! ### closed forwards -/
/-- the word of the rule leads to n -/
def FolR (E : List Ed) (r : Ru) (n : NestedKey) : Prop := (r.w = [] ∧ FreeR E r.q n) ∨ (r.w ≠ [] ∧ AlongR E r.q r.w n)
def FwR (E : List Ed) (rs : List Ru) : Prop := ∀ r ∈ rs, ∀ n, AlongR E r.p [r.s] n → FolR E r n
theorem folR_nil {E : List Ed} {r : Ru} {n : NestedKey} (h : r.w = []) : FolR E r n ↔ FreeR E r.q n := by
  unfold FolR
  constructor
  · rintro (⟨_, k⟩ | ⟨k, _⟩)
    · exact k
    · exact absurd h k
  · exact fun k => .inl ⟨h, k⟩
theorem folR_cons {E : List Ed} {r : Ru} {n : NestedKey} (h : r.w ≠ []) : FolR E r n ↔ AlongR E r.q r.w n := by
  unfold FolR
  constructor
  · rintro (⟨k, _⟩ | ⟨_, k⟩)
    · exact absurd k h
    · exact k
  · exact fun k => .inr ⟨h, k⟩
noncomputable def folB (E : List Ed) (r : Ru) (n : NestedKey) : Bool := open Classical in decide (FolR E r n)
theorem folB_iff {E : List Ed} {r : Ru} {n : NestedKey} : folB E r n = true ↔ FolR E r n := by
  unfold folB
  exact @decide_eq_true_iff _ (Classical.propDecidable _)
theorem folB_of {E : List Ed} {r : Ru} {n : NestedKey} {b : Bool} (h : b = true ↔ FolR E r n) : b = folB E r n := by
  rw [Bool.eq_iff_iff, h, folB_iff]
theorem followed_ok {C : Addr} {E : List Ed} {rs : List Ru} {N : Uni} (hN : N.Ok) (hE : EdIn N E) (hl : E.length ≤ 900) (h0 : NestedKey.none ∈ N.S) (hR : RuIn N rs) {r : Ru} (hr : r ∈ rs) {n : NestedKey} (hn : n ∈ N.U) {o a b : Nat} {M : Mem} (hW : WaysAt C E o a b M) :
    F_is_followed C [.ref o, toD (ruK r), toD n] M = some (.bl (folB E r n), M) := by
  obtain ⟨i1, i2, i3, i4, _⟩ := hR.mem r hr
  have g1 := hW.ob
  refine Vc.pureFn (fun n => by simp [DL.Cl]) ?_
  show WS (m_is_followed C [some (.ref o), some (toD (ruK r)), some (toD n), none, none, none, none] M) _
  unfold m_is_followed
  refine Vc.seqC (R := fun e M1 => M1 = M ∧ e = [some (.ref o), some (toD (ruK r)), some (toD n), some (.int r.m), some (toD r.q), some (.tup (r.w.map toD)), none]) ?_ ?_
  · rw [ruD]
    walk_at "vc"
    exact ⟨rfl, rfl, rfl⟩
  rintro e M1 ⟨rfl, rfl⟩
  have hin : ∀ l : List NestedKey, (∀ t ∈ l, t ∈ N.U) → inO M1 (toD n) (.lst (l.map toD)) = some (decide (n ∈ l)) := fun l h1 => inO_kL (M := M1) (a := n) (ks := l) (hN.un n hn).1.toKx fun k hk => (hN.un k (h1 k hk)).1.toKx
  by_cases hw : r.w = []
  · obtain ⟨r1, q1, q2, q3, q4⟩ := freely_ok hN hE (by omega) hW h0 (ns := [r.q]) (by simpa using i3) (by simp)
    have q1' : F_Ways_freely C [.ref o, .lst [toD r.q]] M1 = some (.lst (r1.map toD), M1) := q1
    have hi := hin r1 q3
    have e1 : decide (n ∈ r1) = folB E r n := folB_of (by rw [decide_eq_true_iff, q4, folR_nil hw]; simp)
    rw [e1] at hi
    rw [hw]
    walk_at "vc"
    refine ⟨fun _ => ?_, fun z => absurd z (by simp)⟩
    walk_at "vc"
    exact ⟨rfl, Pfx.refl⟩
  · obtain ⟨r1, q1, q2, q3, q4⟩ := along_ok hN hE (by omega) hW h0 (ns := [r.q]) (w := r.w) (by simpa using i3) (by simp) i4
    have q1' : F_Ways_along C [.ref o, .lst [toD r.q], .tup (r.w.map toD)] M1 = some (.lst (r1.map toD), M1) := q1
    have hi := hin r1 q2
    have e1 : decide (n ∈ r1) = folB E r n := folB_of (by rw [decide_eq_true_iff, q4, folR_cons hw]; simp)
    rw [e1] at hi
    obtain ⟨x, t, hxt⟩ := List.exists_cons_of_ne_nil hw
    rw [hxt] at q1' ⊢
    walk_at "vc"
    refine ⟨fun z => absurd z (by simp), fun _ => ?_⟩
    walk_at "vc"
    exact ⟨rfl, Pfx.refl⟩
theorem fw_snoc {E : List Ed} {pre : List Ru} {r : Ru} (h : FwR E pre) (k : ∀ n, AlongR E r.p [r.s] n → FolR E r n) : FwR E (pre ++ [r]) := fun r' hr n ha => by
  rcases List.mem_append.mp hr with hr | hr
  · exact h r' hr n ha
  · rw [List.mem_singleton.mp hr] at ha ⊢
    exact k n ha
theorem takesF_ok {C : Addr} {E : List Ed} {F : List NestedKey} {rs : List Ru} {N : Uni} (hN : N.Ok) (hE : EdIn N E) (hl : E.length ≤ 900) (hnd : E.Nodup) (h0 : NestedKey.none ∈ N.S) (hR : RuIn N rs) (M : Mem) :
    ∃ b, F_takes_forwards C [.tup (rus rs), macD E F] M = some (.bl b, M) ∧ (b = true ↔ FwR E rs) := by
  have main : ∃ d, F_takes_forwards C [.tup (rus rs), macD E F] M = some (d, M) ∧ ∃ b, d = .bl b ∧ (b = true ↔ FwR E rs) := by
    refine pureEx ?_
    show WS (m_takes_forwards C [some (.tup (rus rs)), some (macD E F), none, none, none] M) _
    unfold m_takes_forwards
    have hmac : macD E F = .tup [.tup (eds E), .tup (F.map toD)] := rfl
    rw [hmac]
    walk_at "vc"
    refine (ways_init hN hE hl hnd M rfl (fun _ _ => rfl)).mono ?_
    rintro d M1 ⟨rfl, hp1, a, b, T, hT⟩
    refine ⟨rfl, ?_⟩
    walk_at "vc"
    refine Vc.loop (f := fun r => toD (ruK r)) (xs := rs) (fun pre e M2 => M2 = M1 ∧ FwR E pre ∧ ∃ e3 e4, e = [some (.tup (rus rs)), some (.tup [.tup (eds E), .tup (F.map toD)]), some (.ref M.length), e3, e4]) ?_ ?_ ?_
    · exact ⟨rfl, fun r hr => (by simp at hr), _, _, rfl⟩
    · rintro pre r post e M2 hx ⟨rfl, hfw, e3, e4, rfl⟩
      have hr : r ∈ rs := by rw [hx]; simp
      obtain ⟨i1, i2, i3, i4, _⟩ := hR.mem r hr
      have hW := hT.ways
      have g1 := hW.ob
      obtain ⟨r1, q1, q2, q3, q4⟩ := along_ok hN hE (by omega) hW h0 (ns := [r.p]) (w := [r.s]) (by simpa using i1) (by simp) (by simpa using i2)
      have q1' : F_Ways_along C [.ref M.length, .lst [toD r.p], .tup [toD r.s]] M2 = some (.lst (r1.map toD), M2) := q1
      have q4' : ∀ n, n ∈ r1 ↔ AlongR E r.p [r.s] n := fun n => by rw [q4]; simp
      have hf : ∀ n ∈ r1, F_is_followed C [.ref M.length, toD (ruK r), toD n] M2 = some (.bl (folB E r n), M2) := fun n hn => followed_ok hN hE hl h0 hR hr (q2 n hn) hW
      rw [ruD] at hf ⊢
      refine ⟨trivial, ?_⟩
      walk_at "vc"
      refine Vc.loop (f := toD) (xs := r1) (fun pr e M3 => M3 = M2 ∧ (∀ n ∈ pr, FolR E r n) ∧ ∃ e4, e = [some (.tup (rus rs)), some (.tup [.tup (eds E), .tup (F.map toD)]), some (.ref M.length), some (.tup [toD r.p, toD r.s, toD r.q, .tup (r.w.map toD), .int r.m]), e4]) ?_ ?_ ?_
      · exact ⟨rfl, fun n hn => (by simp at hn), _, rfl⟩
      · rintro pr n po e M3 hy ⟨rfl, hfo, e4, rfl⟩
        have hnr : n ∈ r1 := by rw [hy]; simp
        have hfn := hf n hnr
        refine ⟨trivial, ?_⟩
        cases hb : folB E r n with
        | true =>
          rw [hb] at hfn
          walk_at "vc"
          refine ⟨rfl, fun m hm => ?_, _, rfl⟩
          rcases List.mem_append.mp hm with hm | hm
          · exact hfo m hm
          · rw [List.mem_singleton.mp hm]
            exact folB_iff.mp hb
        | false =>
          rw [hb] at hfn
          walk_at "vc"
          refine ⟨_, rfl, ⟨false, rfl, ⟨fun z => absurd z (by decide), fun h => ?_⟩⟩, by simp [DL.Cl], hp1⟩
          have := folB_iff.mpr (h r hr n ((q4' n).mp hnr))
          rw [hb] at this
          exact this
      · rintro e M3 ⟨rfl, hfo, e4, rfl⟩
        refine ⟨trivial, ?_⟩
        walk_at "vc"
        exact ⟨rfl, fw_snoc hfw fun n ha => hfo n ((q4' n).mpr ha), _, _, rfl⟩
    · rintro e M2 ⟨rfl, hfw, e3, e4, rfl⟩
      refine ⟨trivial, ?_⟩
      walk_at "vc"
      exact ⟨_, rfl, ⟨true, rfl, ⟨fun _ => hfw, fun _ => rfl⟩⟩, by simp [DL.Cl], hp1⟩
  obtain ⟨d, h1, b, rfl, h2⟩ := main
  exact ⟨b, h1, h2⟩
theorem law_fw_ok {E : List Ed} {rs : List Ru} {N : Uni} (hN : N.Ok) (hE : EdIn N E) (hl : E.length ≤ 900) (hR : RuIn N rs) (M : Mem) :
    ∃ b, F_law_forwards [.tup (rus rs), .tup (eds E)] M = some (.bl b, M) ∧ (b = true ↔ FwR E rs) := by
  have main : ∃ d, F_law_forwards [.tup (rus rs), .tup (eds E)] M = some (d, M) ∧ ∃ b, d = .bl b ∧ (b = true ↔ FwR E rs) := by
    refine pureEx ?_
    show WS (m_law_forwards [some (.tup (rus rs)), some (.tup (eds E)), none, none, none, none, none, none, none] M) _
    unfold m_law_forwards
    walk_at "vc"
    refine Vc.loop (f := fun r => toD (ruK r)) (xs := rs) (fun pre e M2 => M2 = M ∧ FwR E pre ∧ ∃ e2 e3 e4 e5 e6 e7, e = [some (.tup (rus rs)), some (.tup (eds E)), e2, e3, e4, e5, e6, e7, none]) ?_ ?_ ?_
    · exact ⟨rfl, fun r hr => (by simp at hr), _, _, _, _, _, _, rfl⟩
    · rintro pre r post e M2 hx ⟨rfl, hfw, e2, e3, e4, e5, e6, e7, rfl⟩
      have hr : r ∈ rs := by rw [hx]; simp
      obtain ⟨i1, i2, i3, i4, i5⟩ := hR.mem r hr
      obtain ⟨l1, k1, k2, k3, k4⟩ := law_along_ok hN hE hl (Walks.tup (M := M2)) (ns := [r.p]) (w := [r.s]) (by simpa using i1) (by simp) (by simpa using i2)
      have k1' : F_law_along [.tup (eds E), .lst [toD r.p], .tup [toD r.s]] M2 = some (.lst (l1.map toD), M2) := k1
      have k4' : ∀ n, n ∈ l1 ↔ AlongR E r.p [r.s] n := fun n => by rw [k4]; simp
      -- where the rule's word leads
      obtain ⟨ends, e1, e2', e3'⟩ : ∃ ends : List NestedKey, (r.w = [] → F_law_free [.tup (eds E), .lst [toD r.q]] M2 = some (.lst (ends.map toD), M2)) ∧ (r.w ≠ [] → F_law_along [.tup (eds E), .lst [toD r.q], .tup (r.w.map toD)] M2 = some (.lst (ends.map toD), M2)) ∧ (∀ t ∈ ends, t ∈ N.U) ∧ ∀ n, n ∈ ends ↔ FolR E r n := by
        by_cases hw : r.w = []
        · obtain ⟨ends, q1, q2, q3, q4⟩ := law_free_ok hN hE hl (Walks.tup (M := M2)) (ns := [r.q]) (by simpa using i3) (by simp)
          exact ⟨ends, fun _ => q1, fun z => absurd hw z, q2, fun n => by rw [q4, folR_nil hw]; simp⟩
        · obtain ⟨ends, q1, q2, q3, q4⟩ := law_along_ok hN hE hl (Walks.tup (M := M2)) (ns := [r.q]) (w := r.w) (by simpa using i3) (by simp) i4
          exact ⟨ends, fun z => absurd z hw, fun _ => q1, q2, fun n => by rw [q4, folR_cons hw]; simp⟩
      obtain ⟨e3', e4'⟩ := e3'
      rw [ruD]
      refine ⟨trivial, ?_⟩
      repeat' (walk_at "vcG")
      refine Vc.seqC (R := fun e M3 => M3 = M2 ∧ e = [some (.tup (rus rs)), some (.tup (eds E)), some (toD r.p), some (toD r.s), some (toD r.q), some (.tup (r.w.map toD)), some (.int r.m), some (.lst (ends.map toD)), none]) ?_ ?_
      · by_cases hw : r.w = []
        · have q := e1 hw
          rw [hw]
          walk_at "vc"
          exact ⟨rfl, rfl, rfl⟩
        · have q := e2' hw
          obtain ⟨x, t, hxt⟩ := List.exists_cons_of_ne_nil hw
          rw [hxt] at q ⊢
          simp only [List.map_cons] at q ⊢
          walk_at "vc"
          exact ⟨rfl, rfl, rfl⟩
      rintro e M3 ⟨rfl, rfl⟩
      have hin : ∀ n ∈ l1, inO M3 (toD n) (.lst (ends.map toD)) = some (decide (n ∈ ends)) := fun n hn => inO_kL (hN.un n (k2 n hn)).1.toKx fun k hk => (hN.un k (e3' k hk)).1.toKx
      walk_at "vc"
      refine Vc.lcMap (f := toD) (xs := l1) (fun n => .bl (decide (n ∈ ends))) (by omega) trivial ?_ ?_
      · intro n hn
        have hi := hin n hn
        walk_at "vc"
        exact ⟨rfl, rfl⟩
      · walk_at "vc"
        rw [show (l1.map fun n => Dt.bl (decide (n ∈ ends))) = (l1.map fun n => decide (n ∈ ends)).map .bl from by rw [List.map_map]; rfl]
        walk_at "vc"
        refine br_c (fun hb => ?_) (fun hb => ?_)
        · walk_at "vc"
          refine ⟨rfl, fw_snoc hfw fun n ha => ?_, _, _, _, _, _, _, rfl⟩
          rw [List.all_map, List.all_eq_true] at hb
          exact (e4' n).mp (of_decide_eq_true (hb n ((k4' n).mpr ha)))
        · walk_at "vc"
          refine ⟨_, rfl, ⟨false, rfl, ⟨fun z => absurd z (by decide), fun h => ?_⟩⟩, by simp [DL.Cl], Pfx.refl⟩
          exfalso
          rw [List.all_map] at hb
          have : l1.all (id ∘ fun n => decide (n ∈ ends)) = true := List.all_eq_true.mpr fun n hn => decide_eq_true ((e4' n).mpr (h r hr n ((k4' n).mp hn)))
          rw [this] at hb
          cases hb
    · rintro e M2 ⟨rfl, hfw, e2, e3, e4, e5, e6, e7, rfl⟩
      refine ⟨trivial, ?_⟩
      walk_at "vc"
      exact ⟨_, rfl, ⟨true, rfl, ⟨fun _ => hfw, fun _ => rfl⟩⟩, by simp [DL.Cl], Pfx.refl⟩
  obtain ⟨d, h1, b, rfl, h2⟩ := main
  exact ⟨b, h1, h2⟩
end K05
/-! Law k05 in plain Lean: what is shown. -/
namespace K05
open PySem PySem.Spec PyProof.Rows L2 DL Ev Vc Sh
/-! ### what is shown of a machine -/
mutual
def keyP : NestedKey → PyData
  | .none => .none
  | .num i => .int i
  | .text x => .str x
  | .tup ks => .tuple (keyPs ks)
def keyPs : List NestedKey → List PyData
  | [] => []
  | k :: ks => keyP k :: keyPs ks
end
mutual
theorem toP_toD : ∀ k : NestedKey, toP (toD k) = some (keyP k)
  | .none => rfl
  | .num _ => rfl
  | .text _ => rfl
  | .tup ks => by
    rw [toD, toP, toPs_toDs ks, keyP]
    rfl
theorem toPs_toDs : ∀ ks : List NestedKey, toPs (toDs ks) = some (keyPs ks)
  | [] => rfl
  | k :: ks => by
    rw [toDs, toPs, toP_toD k, toPs_toDs ks, keyPs]
end
theorem strOk_app {a b : Str} (ha : PyData.strOk a = true) (hb : PyData.strOk b = true) : PyData.strOk (a ++ b) = true := by
  unfold PyData.strOk at *
  show (a.cps ++ b.cps).all _ = true
  rw [Array.all_append, ha, hb]
  rfl
theorem strOk_join : ∀ ts : List Str, (∀ t ∈ ts, PyData.strOk t = true) → PyData.strOk (Str.join ", " ts) = true
  | [], _ => by decide +kernel
  | [x], h => h x (by simp)
  | x :: y :: r, h => by
    show PyData.strOk (x ++ ", " ++ Str.join ", " (y :: r)) = true
    exact strOk_app (strOk_app (h x (by simp)) (by decide +kernel)) (strOk_join (y :: r) fun t ht => h t (List.mem_cons_of_mem _ ht))
theorem strOk_tuple {ts : List Str} (h : ∀ t ∈ ts, PyData.strOk t = true) : PyData.strOk (tupleText ts) = true := by
  unfold tupleText
  refine strOk_app (strOk_app (by decide +kernel) (strOk_join ts h)) ?_
  split <;> decide +kernel
/-- it can be shown, and is small -/
structure Shw (w : Nat) (k : NestedKey) : Prop where
  s : (keyP k).showable = true
  o : PyData.strOk (keyP k).shown = true
  l : (keyP k).leavesShort 8 = true
  w : (keyP k).weight ≤ w
theorem shw_tup {w n : Nat} {ks : List NestedKey} (h : ∀ k ∈ ks, Shw w k) (hl : ks.length ≤ n) : Shw (n * (w + 1)) (.tup ks) := by
  have main : PyData.showableAll (keyPs ks) = true ∧ (∀ t ∈ PyData.shownAll (keyPs ks), PyData.strOk t = true) ∧ PyData.leavesShortAll 8 (keyPs ks) = true ∧ PyData.weightAll (keyPs ks) ≤ ks.length * (w + 1) := by
    clear hl
    induction ks with
    | nil => exact ⟨rfl, fun t ht => by simp [keyPs, PyData.shownAll] at ht, rfl, by simp [keyPs, PyData.weightAll]⟩
    | cons k ks ih =>
      obtain ⟨i1, i2, i3, i4⟩ := ih fun k hk => h k (List.mem_cons_of_mem _ hk)
      have hk := h k List.mem_cons_self
      refine ⟨?_, fun t ht => ?_, ?_, ?_⟩
      · rw [keyPs, PyData.showableAll, hk.s, i1]; rfl
      · rw [keyPs, PyData.shownAll] at ht
        rcases List.mem_cons.mp ht with rfl | ht
        · exact hk.o
        · exact i2 t ht
      · rw [keyPs, PyData.leavesShortAll, hk.l, i3]; rfl
      · have := hk.w
        rw [keyPs, PyData.weightAll, List.length_cons, Nat.add_mul]
        omega
  obtain ⟨i1, i2, i3, i4⟩ := main
  refine ⟨?_, ?_, ?_, ?_⟩
  · rw [keyP, PyData.showable]; exact i1
  · rw [keyP, PyData.shown]; exact strOk_tuple i2
  · rw [keyP, PyData.leavesShort]; exact i3
  · rw [keyP, PyData.weight]
    exact Nat.le_trans i4 (Nat.mul_le_mul_right _ hl)
theorem Shw.mono {w w' : Nat} {k : NestedKey} (h : Shw w k) (hw : w ≤ w') : Shw w' k := ⟨h.s, h.o, h.l, Nat.le_trans h.w hw⟩
theorem shw_base {k : NestedKey} (h : k ∈ n5.U ++ n5.S) : Shw 4 k := by
  have all : ∀ k ∈ n5.U ++ n5.S, ((keyP k).showable && PyData.strOk (keyP k).shown && (keyP k).leavesShort 8 && decide ((keyP k).weight ≤ 4)) = true := by decide +kernel
  have h1 := all k h
  simp only [Bool.and_eq_true, decide_eq_true_eq] at h1
  exact ⟨h1.1.1.1, h1.1.1.2, h1.1.2, h1.2⟩
theorem macD_toD (E : List Ed) (F : List NestedKey) : macD E F = toD (.tup [.tup (E.map edK), .tup F]) := by
  unfold macD
  simp only [toD, toDs, toDs_map, eds_map]
/-- the text of a machine -/
noncomputable def mcT (E : List Ed) (F : List NestedKey) : Str := (keyP (.tup [.tup (E.map edK), .tup F])).shown
theorem mac_shw {E : List Ed} {F : List NestedKey} (hE : EdIn n5 E) (hl : E.length ≤ 100) (hF : ∀ f ∈ F, f ∈ n5.U) (hFl : F.length ≤ 100) : Shw 3300 (.tup [.tup (E.map edK), .tup F]) := by
  have h1 : Shw 1600 (.tup (E.map edK)) := (shw_tup (w := 15) (n := 100) (fun k hk => by
    obtain ⟨e, he, rfl⟩ := List.mem_map.mp hk
    obtain ⟨x1, x2, x3⟩ := hE.mem e he
    refine shw_tup (w := 4) (n := 3) (fun k hk => ?_) (by simp)
    simp only [List.mem_cons, List.not_mem_nil, or_false] at hk
    rcases hk with rfl | rfl | rfl
    · exact shw_base (List.mem_append_left _ x1)
    · exact shw_base (List.mem_append_right _ x2)
    · exact shw_base (List.mem_append_left _ x3)) (by rw [List.length_map]; exact hl)).mono (by decide)
  have h2 : Shw 1600 (.tup F) := (shw_tup (w := 4) (n := 100) (fun k hk => shw_base (List.mem_append_left _ (hF k hk))) hFl).mono (by decide)
  refine (shw_tup (w := 1600) (n := 2) (fun k hk => ?_) (by simp)).mono (by decide)
  simp only [List.mem_cons, List.not_mem_nil, or_false] at hk
  rcases hk with rfl | rfl
  · exact h1
  · exact h2
mutual
theorem keyP_depth : ∀ k : NestedKey, (keyP k).depth = k.depth
  | .none => rfl
  | .num _ => rfl
  | .text _ => rfl
  | .tup ks => by
    rw [keyP, PyData.depth, NestedKey.depth, keyPs_depth ks]
theorem keyPs_depth : ∀ ks : List NestedKey, PyData.depthAll (keyPs ks) = NestedKey.depthAll ks
  | [] => rfl
  | k :: ks => by
    rw [keyPs, PyData.depthAll, NestedKey.depthAll, keyP_depth k, keyPs_depth ks]
end
theorem repr_mac {E : List Ed} {F : List NestedKey} (hE : EdIn n5 E) (hl : E.length ≤ 100) (hF : ∀ f ∈ F, f ∈ n5.U) (hFl : F.length ≤ 100) (hd : (NestedKey.tup [.tup (E.map edK), .tup F]).depth ≤ 60) (M : Mem) : reprA [macD E F] M = some (.str (mcT E F), M) := by
  have h := mac_shw hE hl hF hFl
  unfold reprA
  rw [macD_toD]
  simp only [toP_toD]
  rw [if_pos]
  · rfl
  · refine ⟨h.s, rfl, ?_, by rw [keyP_depth]; omega⟩
    have h1 := PyData.shown_le 8 (Nat.le_refl _) _ h.l
    have h2 := h.w
    rw [sizeLine_eq]
    omega
theorem txt_eq {E : List Ed} {F : List NestedKey} (hE : EdIn n5 E) (hl : E.length ≤ 100) (hF : ∀ f ∈ F, f ∈ n5.U) (hFl : F.length ≤ 100) (M : Mem) : eqO M (.str (mcT E F)) (.str (mcT E F)) = some true := by
  have h := mac_shw hE hl hF hFl
  have hk : Kx (.text (mcT E F)) := ⟨h.o, Nat.zero_le _⟩
  have := eqO_k (M := M) hk hk
  rw [decide_eq_true rfl] at this
  exact this
end K05
/-! Law k05 in plain Lean: the law. -/
namespace K05
open PySem PySem.Spec PyProof.Rows L2 DL Ev Vc Sh
/-! ### what is accepted -/
theorem acc_back {Z : List Ed} {F : List NestedKey} {rs : List Ru} (hc : Closed Z rs) {p q : NestedKey} {w v : List NestedKey} (h : StepR rs p w q v) (ha : AccR Z F q v) : AccR Z F p w := by
  obtain ⟨r, hr, rfl, u, rfl, rfl, rfl⟩ := h
  obtain ⟨a, b, h1, h2, h3⟩ := ha
  obtain ⟨c, h4, h5⟩ := h1.app
  exact ⟨a, b, .cons (.refl _) (hc (r.p, r.s, c) ⟨r, hr, rfl, rfl, h4⟩) h5, h2, h3⟩
theorem free_head {E : List Ed} {a b c : NestedKey} {w : List NestedKey} (h : FreeR E a b) (k : AlongR E b w c) (hw : w ≠ []) : AlongR E a w c := by
  cases k with
  | nil => exact absurd rfl hw
  | cons h1 h2 h3 =>
    refine .cons ?_ h2 h3
    clear h2 h3 hw
    induction h1 with
    | refl => exact h
    | step _ he ih => exact .step ih he
theorem free_trans {E : List Ed} {a b c : NestedKey} (h : FreeR E a b) (k : FreeR E b c) : FreeR E a c := by
  induction k with
  | refl => exact h
  | step _ he ih => exact .step ih he
theorem acc_fwd {Z : List Ed} {F : List NestedKey} {rs : List Ru} (hc : FwR Z rs) {p q : NestedKey} {w v : List NestedKey} (h : StepR rs p w q v) (ha : AccR Z F p w) : AccR Z F q v := by
  obtain ⟨r, hr, rfl, u, rfl, rfl, rfl⟩ := h
  obtain ⟨a, b, h1, h2, h3⟩ := ha
  obtain ⟨c, h4, h5⟩ := AlongR.app (v := [r.s]) h1
  rcases hc r hr c h4 with ⟨hw, hf⟩ | ⟨hw, hf⟩
  · rw [hw, List.nil_append]
    by_cases hu : u = []
    · subst hu
      cases h5
      exact ⟨_, b, .nil _, free_trans hf h2, h3⟩
    · exact ⟨a, b, free_head hf h5 hu, h2, h3⟩
  · refine ⟨a, b, ?_, h2, h3⟩
    clear h1 h2 h3 h4 hw
    generalize r.q = q at hf
    generalize r.w = v at hf
    induction hf with
    | nil => exact h5
    | cons k1 k2 _ ih => exact .cons k1 k2 (ih h5)
/-! ### the machine of a script -/
def allE (N : Uni) : List Ed := N.U.flatMap fun a => N.S.flatMap fun s => N.U.map fun b => (a, s, b)
theorem mem_allE {N : Uni} {e : Ed} : e ∈ allE N ↔ e.1 ∈ N.U ∧ e.2.1 ∈ N.S ∧ e.2.2 ∈ N.U := by
  unfold allE
  simp only [List.mem_flatMap, List.mem_map]
  constructor
  · rintro ⟨a, ha, s, hs, b, hb, rfl⟩; exact ⟨ha, hs, hb⟩
  · rintro ⟨h1, h2, h3⟩; exact ⟨e.1, h1, e.2.1, h2, e.2.2, h3, rfl⟩
theorem allE5 : (allE n5).length = 75 := by decide +kernel
structure Mc (E : List Ed) (F : List NestedKey) : Prop where
  nd : E.Nodup
  inn : EdIn n5 E
  fin : ∀ f ∈ F, f ∈ n5.U
  fnd : F.Nodup
theorem Mc.len {E : List Ed} {F : List NestedKey} (h : Mc E F) : E.length ≤ 75 := by
  have := len_le h.nd fun e he => mem_allE.mpr (h.inn.mem e he)
  rw [allE5] at this; exact this
theorem Mc.flen {E : List Ed} {F : List NestedKey} (h : Mc E F) : F.length ≤ 5 := len_le h.fnd h.fin
theorem Mc.dep {E : List Ed} {F : List NestedKey} (h : Mc E F) : (NestedKey.tup [.tup (E.map edK), .tup F]).depth ≤ 60 := by
  have d1 := depthAll_le (ks := E.map edK) (n := 3) |>.mpr fun k hk => by
    obtain ⟨e, he, rfl⟩ := List.mem_map.mp hk
    exact (edK_kz n5_ok (h.inn.mem e he)).2
  have d2 := depthAll_le (ks := F) (n := 3) |>.mpr fun k hk => by have := (n5_ok.un k (h.fin k hk)).2; omega
  simp only [NestedKey.depth, NestedKey.depthAll]
  omega
def stX : List NestedKey := [.num 0, .num 1, .num 2, .text "m", .text "x"]
def n8 : Uni := ⟨n5.U ++ [.text "x"], n5.S⟩
theorem n8_ok : n8.Ok := by
  have tx : Kz (.text "x") := by
    have h : (PyData.strOk "x" && decide (Str.length "x" ≤ 1000)) = true := by decide +kernel
    rw [Bool.and_eq_true, decide_eq_true_iff] at h
    exact Kz.text h.1 h.2
  refine ⟨by decide, by decide, fun n hn => ?_, n5_ok.sn⟩
  rcases List.mem_append.mp hn with hn | hn
  · exact n5_ok.un n hn
  · rw [List.mem_singleton.mp hn]
    exact ⟨tx, Nat.zero_le _⟩
theorem u_in {k : NestedKey} (h : k ∈ n5.U) : k ∈ n8.U := List.mem_append_left _ h
theorem x_in {k : NestedKey} (h : k ∈ stX) : k ∈ n8.U := by
  simp only [stX, List.mem_cons, List.not_mem_nil, or_false] at h
  rcases h with rfl | rfl | rfl | rfl | rfl <;> simp [n8, n5]
theorem e_in {E : List Ed} (h : EdIn n5 E) : EdIn n8 E := ⟨fun e he => by
  obtain ⟨x1, x2, x3⟩ := h.mem e he
  exact ⟨u_in x1, x2, u_in x3⟩⟩
theorem sts_mem {rs : List Ru} {k : NestedKey} : k ∈ sts rs ↔ k ∈ rs.map (·.p) ++ rs.map (·.q) := by
  unfold sts
  rw [List.mem_flatMap, List.mem_append, List.mem_map, List.mem_map]
  constructor
  · rintro ⟨r, hr, h⟩
    simp only [List.mem_cons, List.not_mem_nil, or_false] at h
    rcases h with rfl | rfl
    · exact .inl ⟨r, hr, rfl⟩
    · exact .inr ⟨r, hr, rfl⟩
  · rintro (⟨r, hr, rfl⟩ | ⟨r, hr, rfl⟩)
    · exact ⟨r, hr, by simp⟩
    · exact ⟨r, hr, by simp⟩
theorem law_ok : ∀ (c : LC) (ns : List Int), ns.length ≤ 63 → ∃ M', FL c [.lsk (ns.map .int)] [] = some (.bl true, M') := by
  intro c ns hns
  have main : Wp (F_law c [.lsk (ns.map .int)] []) fun d _ => d = .bl true := by
    refine Vc.cut (Vc.body' ?_)
    show WS (m_law c [some (.lsk (ns.map .int)), none, none, none, none, none, none, none, none, none, none, none, none, none, none, none, none, none, none] []) _
    have fin : ∀ {e : Sl} {M' : Mem}, BodyEnd (fun d M' => DL.Cl ([] : Mem).length d ∧ (∀ (i : Nat) (c : Dt), i < ([] : Mem).length → M'[i]? = some (some c) → ([] : Mem)[i]? = some (some c) ∨ DL.Cl ([] : Mem).length c) ∧ d = .bl true) (.rt (.bl true)) e M' := be_rt ⟨by simp [DL.Cl], fun i _ h => absurd h (Nat.not_lt_zero i), rfl⟩
    obtain ⟨st, hst, hi, _⟩ := start_dr hns (M := [])
    have hst : F_law_start [.lsk (ns.map .int)] [] = some (Dt.ref 0, ([some st] : Mem)) := hst
    have hi : IsSt 0 [some st] := hi
    unfold m_law
    refine Vc.seqC (R := fun e M => IsSt 0 M ∧ e = [some (.lsk (ns.map .int)), some (.ref 0), none, none, none, none, none, none, none, none, none, none, none, none, none, none, none, none, none]) ?_ ?_
    · walk_at "vc"
      exact ⟨rfl, hi, rfl⟩
    rintro e M ⟨hi, rfl⟩
    obtain ⟨rs, M1, h1, d1, hR, hrl, _⟩ := law_pushdown_ok hi
    have h1' : F_law_pushdown [.ref 0] M = some (.tup (rus rs), M1) := h1
    have hRI := ru_in hR
    refine Vc.seqC (R := fun e M => IsSt 0 M ∧ e = [some (.lsk (ns.map .int)), some (.ref 0), some (.tup (rus rs)), none, none, none, none, none, none, none, none, none, none, none, none, none, none, none, none]) ?_ ?_
    · walk_at "vc"
      exact ⟨rfl, d1.st, rfl⟩
    rintro e M2 ⟨hi2, rfl⟩
    obtain ⟨r0, M2', hr0, d0, e0⟩ := draw_h hi2 (b := 2) (by decide) (by decide)
    have e0' : F_law_draw [.ref 0, .int 2] M2 = some (.int (r0 : Nat), M2') := e0
    obtain ⟨E0, F, M3, h2, d2, hma⟩ := law_machine_ok d0.st (decide (((r0 : Nat) : Int) = 0))
    have h2' : F_law_machine [.ref 0, .bl (decide (((r0 : Nat) : Int) = 0))] M2' = some (macD E0 F, M3) := h2
    refine Vc.seqC (R := fun e M => IsSt 0 M ∧ e = [some (.lsk (ns.map .int)), some (.ref 0), some (.tup (rus rs)), some (macD E0 F), none, none, none, none, none, none, none, none, none, none, none, none, none, none, none]) ?_ ?_
    · walk_at "vc"
      exact ⟨rfl, d2.st, rfl⟩
    rintro e M4 ⟨hi4, rfl⟩
    have hE0 : Mc E0 F := ⟨hma.nd, hma.inn, hma.fin, hma.fnd⟩
    -- closed backwards, in some scripts
    refine Vc.seqC (R := fun e M => ∃ (X : List Ed), Mc X F ∧ ∃ j4 j5 : Option Dt,  e = [some (.lsk (ns.map .int)), some (.ref 0), some (.tup (rus rs)), some (macD X F), j4, j5, none, none, none, none, none, none, none, none, none, none, none, none, none]) ?_ ?_
    · obtain ⟨r1, M5, hr1, d5, e5⟩ := draw_h hi4 (b := 2) (by decide) (by decide)
      have e5' : F_law_draw [.ref 0, .int 2] M4 = some (.int (r1 : Nat), M5) := e5
      walk_at "vc"
      refine br_d (fun h0 => ?_) (fun h0 => ?_)
      · walk_at "vc"
        refine Vc.loop (f := fun i : Nat => .int (i : Nat)) (xs := List.range 40) (fun pre e M => ∃ (X : List Ed), Mc X F ∧ ∃ j4 j5 : Option Dt,  e = [some (.lsk (ns.map .int)), some (.ref 0), some (.tup (rus rs)), some (macD X F), j4, j5, none, none, none, none, none, none, none, none, none, none, none, none, none]) ?_ ?_ ?_
        · exact ⟨E0, hE0, _, _, rfl⟩
        · rintro pre x post e M6 hx ⟨X, hX, j4, j5, rfl⟩
          have hxl := hX.len
          obtain ⟨B, q1, q2, q3⟩ := missing_ok n5_ok hX.inn (by omega) hRI (by omega) M6
          have hBi : ∀ e ∈ B, e.1 ∈ n5.U ∧ e.2.1 ∈ n5.S ∧ e.2.2 ∈ n5.U := fun e he => need_in hX.inn hRI ((q3 e).mp he).1
          have ho : F_law_once [.lst (eds B)] M6 = some (.lst (eds (onceE B)), M6) := by
            have := law_once_ok (M := M6) (ks := B.map edK) Walks.lst (fun k hk => by
              obtain ⟨e, he, rfl⟩ := List.mem_map.mp hk
              exact (edK_kz n5_ok (hBi e he)).1.toKx) (by rw [List.length_map]; omega)
            rw [once_eds, ← eds_map, ← eds_map] at this
            exact this
          have hnew : Mc (X ++ onceE B) F := by
            refine ⟨?_, ⟨fun e he => ?_⟩, hX.fin, hX.fnd⟩
            · rw [List.nodup_append]
              refine ⟨hX.nd, onceE_nodup B, fun a ha b hb => ?_⟩
              rintro rfl
              exact ((q3 a).mp (mem_onceE.mp hb)).2 ha
            · rcases List.mem_append.mp he with he | he
              · exact hX.inn.mem e he
              · exact hBi e (mem_onceE.mp he)
          have hnl := hnew.len
          rw [List.length_append] at hnl
          have hel : (eds X).length = X.length := List.length_map _
          have hel2 : (eds (onceE B)).length = (onceE B).length := List.length_map _
          have hmac : macD X F = .tup [.tup (eds X), .tup (F.map toD)] := rfl
          refine ⟨trivial, ?_⟩
          rw [hmac]
          walk_at "vc"
          refine br_d (fun hz => ?_) (fun hz => ?_)
          · walk_at "vc"
            exact ⟨rfl, X, hX, _, _, rfl⟩
          · walk_at "vc"
            have this : Dt.tup [.tup (eds X ++ eds (onceE B)), .tup (F.map toD)] = macD (X ++ onceE B) F := by
              unfold macD eds
              rw [List.map_append]
            rw [this]
            exact ⟨X ++ onceE B, hnew, _, _, rfl⟩
        · rintro e M6 ⟨X, hX, j4, j5, rfl⟩
          exact ⟨trivial, rfl, X, hX, _, _, rfl⟩
      · walk_at "vc"
        exact ⟨rfl, E0, hE0, _, _, rfl⟩
    rintro e M5 ⟨E, hE, j4, j5, rfl⟩
    have hel := hE.len
    have hfl := hE.flen
    have hmac : macD E F = .tup [.tup (eds E), .tup (F.map toD)] := rfl
    refine Vc.seqC (R := fun e M => M = M5 ∧ e = [some (.lsk (ns.map .int)), some (.ref 0), some (.tup (rus rs)), some (macD E F), j4, j5, some (.lst ((rs.map (·.p) ++ rs.map (·.q)).map toD)), none, none, none, none, none, none, none, none, none, none, none, none]) ?_ ?_
    · walk_at "vc"
      refine Vc.lcMap (f := fun r => toD (ruK r)) (xs := rs) (fun r => toD r.p) (by omega) trivial ?_ ?_
      · intro r hr
        simp only [ruD]
        walk_at "vc"
        exact ⟨rfl, rfl⟩
      walk_at "vc"
      refine Vc.lcMap (f := fun r => toD (ruK r)) (xs := rs) (fun r => toD r.q) (by omega) trivial ?_ ?_
      · intro r hr
        simp only [ruD]
        walk_at "vc"
        exact ⟨rfl, rfl⟩
      walk_at "vc"
      refine ⟨rfl, rfl, ?_⟩
      rw [List.map_append, List.map_map, List.map_map]
      rfl
    rintro e M6 ⟨rfl, rfl⟩
    refine Vc.seqC (R := fun e M => M = M6 ∧ ∃ b7 : Bool, (b7 = true ↔ PlainR E rs) ∧ e = [some (.lsk (ns.map .int)), some (.ref 0), some (.tup (rus rs)), some (macD E F), j4, j5, some (.lst ((rs.map (·.p) ++ rs.map (·.q)).map toD)), some (.bl b7), none, none, none, none, none, none, none, none, none, none, none]) ?_ ?_
    · rw [hmac]
      walk_at "vc"
      refine Vc.lcMap (f := fun e => toD (edK e)) (xs := E) (fun e => .bl (decide (e.2.2 ∈ rs.map (·.p) ++ rs.map (·.q)))) (by omega) trivial ?_ ?_
      · rintro ⟨a, s, t⟩ he
        have hin : inO M6 (toD t) (.lst ((rs.map (·.p) ++ rs.map (·.q)).map toD)) = some (decide (t ∈ rs.map (·.p) ++ rs.map (·.q))) := inO_kL (n5_ok.un _ (hE.inn.mem _ he).2.2).1.toKx fun k hk => by
          rw [← sts_mem] at hk
          obtain ⟨r, hr, h⟩ := List.mem_flatMap.mp hk
          obtain ⟨i1, i2, i3, _⟩ := hRI.mem r hr
          simp only [List.mem_cons, List.not_mem_nil, or_false] at h
          rcases h with rfl | rfl
          · exact (n5_ok.un _ i1).1.toKx
          · exact (n5_ok.un _ i3).1.toKx
        show Get (some _) _
        refine ⟨_, rfl, ?_⟩
        simp only [edK, toD, toDs]
        walk_at "vc"
        exact ⟨rfl, rfl⟩
      · walk_at "vc"
        rw [show (E.map fun e => Dt.bl (decide (e.2.2 ∈ rs.map (·.p) ++ rs.map (·.q)))) = (E.map fun e => decide (e.2.2 ∈ rs.map (·.p) ++ rs.map (·.q))).map .bl from by rw [List.map_map]; rfl]
        refine anyW ?_
        walk_at "vc"
        refine ⟨rfl, rfl, _, ?_, rfl⟩
        rw [List.any_map, Bool.not_eq_true', List.any_eq_false]
        constructor
        · intro h e he z
          exact h e he (decide_eq_true (sts_mem.mp z))
        · intro h e he z
          exact h e he (sts_mem.mpr (of_decide_eq_true z))
    rintro e M7 ⟨rfl, b7, hb7, rfl⟩
    obtain ⟨B, q1, q2, q3⟩ := missing_ok n5_ok hE.inn (by omega) hRI (by omega) M7
    refine Vc.seqC (R := fun e M => M = M7 ∧ ∃ b8 : Bool, (b8 = true ↔ Closed E rs) ∧ e = [some (.lsk (ns.map .int)), some (.ref 0), some (.tup (rus rs)), some (macD E F), j4, j5, some (.lst ((rs.map (·.p) ++ rs.map (·.q)).map toD)), some (.bl b7), some (.bl b8), none, none, none, none, none, none, none, none, none, none]) ?_ ?_
    · rw [hmac]
      walk_at "vc"
      refine ⟨rfl, rfl, _, ?_, rfl⟩
      rw [decide_eq_true_iff]
      have hbl : (eds B).length = B.length := List.length_map _
      constructor
      · intro h e he
        have h0 : B = [] := List.length_eq_zero_iff.mp (by omega)
        by_cases hin : e ∈ E
        · exact hin
        · have := (q3 e).mpr ⟨he, hin⟩
          rw [h0] at this
          cases this
      · intro h
        have h0 : B = [] := List.eq_nil_iff_forall_not_mem.mpr fun e he => ((q3 e).mp he).2 (h e ((q3 e).mp he).1)
        rw [h0]
        rfl
    rintro e M8 ⟨rfl, b8, hb8, rfl⟩
    obtain ⟨b9, lf9, hb9⟩ := law_fw_ok n5_ok hE.inn (by omega) hRI M8
    refine Vc.seqC (R := fun e M => M = M8 ∧ e = [some (.lsk (ns.map .int)), some (.ref 0), some (.tup (rus rs)), some (macD E F), j4, j5, some (.lst ((rs.map (·.p) ++ rs.map (·.q)).map toD)), some (.bl b7), some (.bl b8), some (.bl b9), none, none, none, none, none, none, none, none, none]) ?_ ?_
    · rw [hmac]
      walk_at "vc"
      exact ⟨rfl, rfl, rfl⟩
    rintro e M9 ⟨rfl, rfl⟩
    have hrp := repr_mac hE.inn (by omega) hE.fin (by omega) hE.dep M9
    refine Vc.seqC (R := fun e M => M = M9 ∧ e = [some (.lsk (ns.map .int)), some (.ref 0), some (.tup (rus rs)), some (macD E F), j4, j5, some (.lst ((rs.map (·.p) ++ rs.map (·.q)).map toD)), some (.bl b7), some (.bl b8), some (.bl b9), some (.str (mcT E F)), none, none, none, none, none, none, none, none]) ?_ ?_
    · walk_at "vc"
      exact ⟨rfl, rfl, rfl⟩
    rintro e M10 ⟨rfl, rfl⟩
    have his : ∀ (b : Bool) M, F_law_is [.bl b, .bl b] M = some (.bl true, M) := fun b M => by
      have : F_law_is [.bl b, .bl b] M = some (.bl (decide (b = b)), M) := is_ok b b M
      rw [decide_eq_true rfl] at this
      exact this
    have eqb : ∀ {a b : Bool} {P : Prop}, (a = true ↔ P) → (b = true ↔ P) → a = b := fun h k => by rw [Bool.eq_iff_iff, h, k]
    obtain ⟨c7, g7, hc7⟩ := plain_ok n5_ok hE.inn (by omega) (F := F) hRI (by omega) M10
    obtain ⟨c8, g8, hc8⟩ := takesB_ok (C := c) n5_ok hE.inn (by omega) (F := F) hE.nd n5_none hRI (by omega) M10
    obtain ⟨c9, g9, hc9⟩ := takesF_ok (C := c) n5_ok hE.inn (by omega) (F := F) hE.nd n5_none hRI M10
    obtain rfl := eqb hc7 hb7
    obtain rfl := eqb hc8 hb8
    obtain rfl := eqb hc9 hb9
    have i7 := his c7 M10
    have i8 := his c8 M10
    have i9 := his c9 M10
    have htx := txt_eq hE.inn (by omega) hE.fin (by omega) M10
    refine Vc.seqC (R := fun e M => M = M10 ∧ e = [some (.lsk (ns.map .int)), some (.ref 0), some (.tup (rus rs)), some (macD E F), j4, j5, some (.lst ((rs.map (·.p) ++ rs.map (·.q)).map toD)), some (.bl c7), some (.bl c8), some (.bl c9), some (.str (mcT E F)), none, none, none, none, none, none, none, none]) ?_ ?_
    · walk_at "vc"
      exact ⟨rfl, rfl, rfl⟩
    rintro e M11 ⟨rfl, rfl⟩
    refine Vc.seqC (R := fun e M => M = M11 ∧ e = [some (.lsk (ns.map .int)), some (.ref 0), some (.tup (rus rs)), some (macD E F), j4, j5, some (.lst ((rs.map (·.p) ++ rs.map (·.q)).map toD)), some (.bl c7), some (.bl c8), some (.bl c9), some (.str (mcT E F)), none, none, none, none, none, none, none, none]) ?_ ?_
    · walk_at "vc"
      exact ⟨rfl, rfl, rfl⟩
    rintro e M12 ⟨rfl, rfl⟩
    have hacc : ∀ p w, p ∈ n8.U → (∀ s ∈ w, s ∈ aS) → ∃ r, F_law_accepts [macD E F, cfgD p w] M12 = some (.bl r, M12) ∧ F_accepts c [macD E F, cfgD p w] M12 = some (.bl r, M12) ∧ (r = true ↔ AccR E F p w) := fun p w hp hw => by
      obtain ⟨r1, a1, a2⟩ := accepts_ok (C := c) n8_ok (e_in hE.inn) (by omega) hE.nd n5_none (fun f hf => u_in (hE.fin f hf)) hp (fun s hs => aS_in (hw s hs)) M12
      obtain ⟨r2, k1, k2⟩ := law_accepts_ok n8_ok (e_in hE.inn) (by omega) (fun f hf => u_in (hE.fin f hf)) hp (fun s hs => aS_in (hw s hs)) M12
      obtain rfl := eqb a2 k2
      exact ⟨r1, k1, a1, a2⟩
    walk_at "vc"
    refine Vc.loop (f := toD) (xs := stX) (fun pre e M => M = M12 ∧ ∃ j4 j5 j11 j12 j13 j14 j15 j16 : Option Dt,  e = [some (.lsk (ns.map .int)), some (.ref 0), some (.tup (rus rs)), some (macD E F), j4, j5, some (.lst ((rs.map (·.p) ++ rs.map (·.q)).map toD)), some (.bl c7), some (.bl c8), some (.bl c9), some (.str (mcT E F)), j11, j12, j13, j14, j15, j16, none, none]) ?_ ?_ ?_
    · exact ⟨rfl, _, _, _, _, _, _, _, _, rfl⟩
    · rintro pre p post e M13 hx ⟨rfl, j4, j5, j11, j12, j13, j14, j15, j16, rfl⟩
      have hpX : p ∈ stX := by rw [hx]; simp
      refine ⟨trivial, ?_⟩
      obtain ⟨S, hS, hS1, hS2, hS3⟩ := law_stacks_ok (k := 3) (by decide) M13
      have hS' : F_law_stacks [.int 3] M13 = some (.lst (S.map fun w => .tup (w.map toD)), M13) := hS
      walk_at "vc"
      refine Vc.loop (f := fun w : List NestedKey => .tup (w.map toD)) (xs := S) (fun pr e M => M = M13 ∧ ∃ j4 j5 j12 j13 j14 j15 j16 : Option Dt,  e = [some (.lsk (ns.map .int)), some (.ref 0), some (.tup (rus rs)), some (macD E F), j4, j5, some (.lst ((rs.map (·.p) ++ rs.map (·.q)).map toD)), some (.bl c7), some (.bl c8), some (.bl c9), some (.str (mcT E F)), some (toD p), j12, j13, j14, j15, j16, none, none]) ?_ ?_ ?_
      · exact ⟨rfl, _, _, _, _, _, _, _, rfl⟩
      · rintro pr w po e M14 hy ⟨rfl, j4, j5, j12, j13, j14, j15, j16, rfl⟩
        obtain ⟨hw1, hw2⟩ := hS1 w (by rw [hy]; simp)
        obtain ⟨r2, k1, k2, k3⟩ := hacc p w (x_in hpX) hw1
        have k1' : F_law_accepts [macD E F, .tup [toD p, .tup (w.map toD)]] M14 = some (.bl r2, M14) := k1
        have k2' : F_accepts c [macD E F, .tup [toD p, .tup (w.map toD)]] M14 = some (.bl r2, M14) := k2
        have ir := his r2 M14
        obtain ⟨Lx, l1, l2, l3⟩ := law_next_ok hR (by omega) (n8_ok.un p (x_in hpX)).1.toKx hw1 (by omega) M14
        have l1' : F_law_next [.tup (rus rs), .tup [toD p, .tup (w.map toD)]] M14 = some (.lst (Lx.map nxD), M14) := l1
        refine ⟨trivial, ?_⟩
        walk_at "vc"
        refine Vc.loop (f := nxD) (xs := Lx) (fun pk e M => M = M14 ∧ ∃ j4 j5 j14 j15 j16 : Option Dt,  e = [some (.lsk (ns.map .int)), some (.ref 0), some (.tup (rus rs)), some (macD E F), j4, j5, some (.lst ((rs.map (·.p) ++ rs.map (·.q)).map toD)), some (.bl c7), some (.bl c8), some (.bl c9), some (.str (mcT E F)), some (toD p), some (.tup (w.map toD)), some (.bl r2), j14, j15, j16, none, none]) ?_ ?_ ?_
        · exact ⟨rfl, _, _, _, _, _, rfl⟩
        · rintro pk ⟨i, q, v⟩ qk e M15 hk ⟨rfl, j4, j5, j14, j15, j16, rfl⟩
          have hst := l3 (i, q, v) (by rw [hk]; simp)
          dsimp only at hst
          have hqv : q ∈ stN ∧ ∀ s ∈ v, s ∈ aS := by
            obtain ⟨r, hr, hrp, u, hwu, rfl, rfl⟩ := hst
            refine ⟨(hR r hr).q, fun s hs => ?_⟩
            rcases List.mem_append.mp hs with hs | hs
            · exact (hR r hr).w s hs
            · exact hw1 s (by rw [hwu]; exact List.mem_cons_of_mem _ hs)
          obtain ⟨r3, m1, _, m3⟩ := hacc q v (u_in (stN_in hqv.1)) hqv.2
          have f1 : c8 = true → r3 = true → r2 = true := fun h k => k3.mpr (acc_back (hc8.mp h) hst (m3.mp k))
          have f2 : c9 = true → r2 = true → r3 = true := fun h k => m3.mpr (acc_fwd (hc9.mp h) hst (k3.mp k))
          refine ⟨trivial, ?_⟩
          simp only [nxD]
          repeat' (walk_at "vcG")
          refine Vc.seqC (R := fun e M => M = M15 ∧ e = [some (.lsk (ns.map .int)), some (.ref 0), some (.tup (rus rs)), some (macD E F), j4, j5, some (.lst ((rs.map (·.p) ++ rs.map (·.q)).map toD)), some (.bl c7), some (.bl c8), some (.bl c9), some (.str (mcT E F)), some (toD p), some (.tup (w.map toD)), some (.bl r2), some (.int (i : Nat)), some (cfgD q v), some (.bl r3), none, none]) ?_ ?_
          · walk_at "vc"
            exact ⟨rfl, rfl, rfl⟩
          rintro e M16 ⟨rfl, rfl⟩
          clear hc7 hc8 hc9 k3 m3 hacc g7 g8 g9 i7 i8 i9 k1 k2 k1' k2' m1 ir lf9
          revert f1 f2
          cases c8 <;> cases c9 <;> cases r3 <;> cases r2 <;> intro f1 f2 <;> first
            | exact absurd (f1 rfl rfl) (by decide)
            | exact absurd (f2 rfl rfl) (by decide)
            | (walk_at "vc"; exact ⟨rfl, _, _, _, _, _, rfl⟩)
        · rintro e M15 ⟨rfl, j4, j5, j14, j15, j16, rfl⟩
          refine ⟨trivial, ?_⟩
          walk_at "vc"
          exact ⟨rfl, _, _, _, _, _, _, _, rfl⟩
      · rintro e M14 ⟨rfl, j4, j5, j12, j13, j14, j15, j16, rfl⟩
        refine ⟨trivial, ?_⟩
        walk_at "vc"
        exact ⟨rfl, _, _, _, _, _, _, _, _, rfl⟩
    · rintro e M13 ⟨rfl, j4, j5, j11, j12, j13, j14, j15, j16, rfl⟩
      refine ⟨trivial, ?_⟩
      walk_at "vc"
      exact fin (e := [])
  obtain ⟨d, M', h, rfl⟩ := main
  exact ⟨M', h⟩
end K05
open PySem PySem.W PyProof.Rows
set_option maxRecDepth 100000 in
set_option maxHeartbeats 0 in
theorem PySem.Challenge.cw_everydepth_k05_stacks_accepted_holds : PySem.Challenge.rw_everydepth_k05_stacks_accepted.Holds := by
  w_on; o_law; k_head; (case hw => w_witness2)
  k_fill
  refine DL.law_walkAt (l := PySem.Challenge.rw_everydepth_k05_stacks_accepted) (F := K05.FL) rfl rfl K05.law_ok (fun w h Y => PySem.W.kIn_of Y) ?F
  case F =>
    intro w mg fa h KX G hmg
    refine' K05.all_mk KX G hmg ?cg0 ?cp0 ?ch0 ?co0 ?cs0 ?cm0 ?ck0 ?na0 ?na1 ?n0 ?i0 ?l0 ?c0 ?k0 ?n1 ?i1 ?l1 ?c1 ?k1 ?n2 ?i2 ?l2 ?c2 ?k2 ?n3 ?i3 ?l3 ?c3 ?k3 ?n4 ?i4 ?l4 ?c4 ?k4 ?n5 ?l5 ?c5 ?k5 ?n6 ?l6 ?c6 ?k6 ?n7 ?l7 ?c7 ?k7 ?n8 ?l8 ?c8 ?k8 ?n9 ?l9 ?c9 ?k9 ?n10 ?l10 ?c10 ?k10 ?n11 ?l11 ?c11 ?k11 ?n12 ?l12 ?c12 ?k12 ?n13 ?l13 ?c13 ?k13 ?n14 ?l14 ?c14 ?k14 ?n15 ?l15 ?c15 ?k15 ?n16 ?l16 ?c16 ?k16 ?n17 ?l17 ?c17 ?k17 ?n18 ?l18 ?c18 ?k18 ?n19 ?l19 ?c19 ?k19 ?n20 ?l20 ?c20 ?k20 ?n21 ?l21 ?c21 ?k21 ?n22 ?l22 ?c22 ?k22 ?n23 ?l23 ?c23 ?k23 ?n24 ?l24 ?c24 ?k24 ?n25 ?l25 ?c25 ?k25 ?n26 ?l26 ?c26 ?k26 ?z0 ?z1 ?z2 ?z3 ?z4 ?z5 ?z6 ?z7 ?z8 ?z9 ?z10
    (case cg0 => first | k_is | rfl)
    (case cp0 => first | k_is | rfl)
    (case ch0 => first | k_is | rfl)
    (case co0 => first | k_is | rfl)
    (case cs0 => first | k_is | rfl)
    (case cm0 => first | k_is | rfl)
    (case ck0 => first | k_is | rfl)
    (case na0 => first | k_is | rfl)
    (case na1 => first | k_is | rfl)
    (case n0 => first | k_is | rfl)
    (case i0 => first | k_is | rfl)
    (case l0 => first | k_is | rfl)
    (case c0 => first | k_is | rfl)
    (case k0 => first | k_is | rfl)
    (case n1 => first | k_is | rfl)
    (case i1 => first | k_is | rfl)
    (case l1 => first | k_is | rfl)
    (case c1 => first | k_is | rfl)
    (case k1 => first | k_is | rfl)
    (case n2 => first | k_is | rfl)
    (case i2 => first | k_is | rfl)
    (case l2 => first | k_is | rfl)
    (case c2 => first | k_is | rfl)
    (case k2 => first | k_is | rfl)
    (case n3 => first | k_is | rfl)
    (case i3 => first | k_is | rfl)
    (case l3 => first | k_is | rfl)
    (case c3 => first | k_is | rfl)
    (case k3 => first | k_is | rfl)
    (case n4 => first | k_is | rfl)
    (case i4 => first | k_is | rfl)
    (case l4 => first | k_is | rfl)
    (case c4 => first | k_is | rfl)
    (case k4 => first | k_is | rfl)
    (case n5 => first | k_is | rfl)
    (case l5 => first | k_is | rfl)
    (case c5 => first | k_is | rfl)
    (case k5 => first | k_is | rfl)
    (case n6 => first | k_is | rfl)
    (case l6 => first | k_is | rfl)
    (case c6 => first | k_is | rfl)
    (case k6 => first | k_is | rfl)
    (case n7 => first | k_is | rfl)
    (case l7 => first | k_is | rfl)
    (case c7 => first | k_is | rfl)
    (case k7 => first | k_is | rfl)
    (case n8 => first | k_is | rfl)
    (case l8 => first | k_is | rfl)
    (case c8 => first | k_is | rfl)
    (case k8 => first | k_is | rfl)
    (case n9 => first | k_is | rfl)
    (case l9 => first | k_is | rfl)
    (case c9 => first | k_is | rfl)
    (case k9 => first | k_is | rfl)
    (case n10 => first | k_is | rfl)
    (case l10 => first | k_is | rfl)
    (case c10 => first | k_is | rfl)
    (case k10 => first | k_is | rfl)
    (case n11 => first | k_is | rfl)
    (case l11 => first | k_is | rfl)
    (case c11 => first | k_is | rfl)
    (case k11 => first | k_is | rfl)
    (case n12 => first | k_is | rfl)
    (case l12 => first | k_is | rfl)
    (case c12 => first | k_is | rfl)
    (case k12 => first | k_is | rfl)
    (case n13 => first | k_is | rfl)
    (case l13 => first | k_is | rfl)
    (case c13 => first | k_is | rfl)
    (case k13 => first | k_is | rfl)
    (case n14 => first | k_is | rfl)
    (case l14 => first | k_is | rfl)
    (case c14 => first | k_is | rfl)
    (case k14 => first | k_is | rfl)
    (case n15 => first | k_is | rfl)
    (case l15 => first | k_is | rfl)
    (case c15 => first | k_is | rfl)
    (case k15 => first | k_is | rfl)
    (case n16 => first | k_is | rfl)
    (case l16 => first | k_is | rfl)
    (case c16 => first | k_is | rfl)
    (case k16 => first | k_is | rfl)
    (case n17 => first | k_is | rfl)
    (case l17 => first | k_is | rfl)
    (case c17 => first | k_is | rfl)
    (case k17 => first | k_is | rfl)
    (case n18 => first | k_is | rfl)
    (case l18 => first | k_is | rfl)
    (case c18 => first | k_is | rfl)
    (case k18 => first | k_is | rfl)
    (case n19 => first | k_is | rfl)
    (case l19 => first | k_is | rfl)
    (case c19 => first | k_is | rfl)
    (case k19 => first | k_is | rfl)
    (case n20 => first | k_is | rfl)
    (case l20 => first | k_is | rfl)
    (case c20 => first | k_is | rfl)
    (case k20 => first | k_is | rfl)
    (case n21 => first | k_is | rfl)
    (case l21 => first | k_is | rfl)
    (case c21 => first | k_is | rfl)
    (case k21 => first | k_is | rfl)
    (case n22 => first | k_is | rfl)
    (case l22 => first | k_is | rfl)
    (case c22 => first | k_is | rfl)
    (case k22 => first | k_is | rfl)
    (case n23 => first | k_is | rfl)
    (case l23 => first | k_is | rfl)
    (case c23 => first | k_is | rfl)
    (case k23 => first | k_is | rfl)
    (case n24 => first | k_is | rfl)
    (case l24 => first | k_is | rfl)
    (case c24 => first | k_is | rfl)
    (case k24 => first | k_is | rfl)
    (case n25 => first | k_is | rfl)
    (case l25 => first | k_is | rfl)
    (case c25 => first | k_is | rfl)
    (case k25 => first | k_is | rfl)
    (case n26 => first | k_is | rfl)
    (case l26 => first | k_is | rfl)
    (case c26 => first | k_is | rfl)
    (case k26 => first | k_is | rfl)
    (case z0 => first | k_is | rfl)
    (case z1 => first | k_is | rfl)
    (case z2 => first | k_is | rfl)
    (case z3 => first | k_is | rfl)
    (case z4 => first | k_is | rfl)
    (case z5 => first | k_is | rfl)
    (case z6 => first | k_is | rfl)
    (case z7 => first | k_is | rfl)
    (case z8 => first | k_is | rfl)
    (case z9 => first | k_is | rfl)
    (case z10 => first | k_is | rfl)
