import PyProof.Rows.All
import Wide.All
import OpenK.AllK
import Wide.FinOn
import HandS.ForMost
import HandS.EndBits
import HandS.Wide
import HandS.TupAny
import HandS.Conv
import HandS.Zip
import HandS.Style
import HandS.RaiseMore
import HandS.TupMul
import HandS.IsInst
import HandS.More
import PyProof.ReprRoads
import KE.KRevSl
import KE.GoesMore
import KE.GoesEnumKw
import HandS.SortInts
import HandS.TupSets
import HandS.Defaults
import PySem.Challenge.RW_mutehands_k12_false_pieces_found
set_option Elab.async false
set_option linter.all false
set_option maxRecDepth 100000
set_option maxHeartbeats 4000000
/-! A layer of plain data over the hand layer: what a name holds is told as data (frozen) or as an own list of a store; a body's reading speaks of these alone. -/
namespace DL
open PySem PySem.Spec PyProof.Rows L2

/-! ### data in the abstract heap -/
abbrev Fz := Addr → Prop
mutual
inductive Rp (K : PySem.W.Frag) (fr : Fz) (H : Hp) : V → PyData → Prop
  | non : Rp K fr H .non .none
  | bl (b : Bool) : Rp K fr H (.bl b) (.bool b)
  | int (i : Int) : Rp K fr H (.int i) (.int i)
  | str (x : Str) : Rp K fr H (.str x) (.str x)
  | lst {a : Addr} {xs : List V} {ds : List PyData} : H a = some (.lst xs) → fr a → RpAll K fr H xs ds → Rp K fr H (.ref a) (.list ds)
  | tup {a : Addr} {xs : List V} {ds : List PyData} : SqT K H a xs → RpAll K fr H xs ds → Rp K fr H (.ref a) (.tuple ds)
  | dct {a : Addr} {ws : List (Key × V)} {es : List (PyData × PyData)} : H a = some (.dK ws) → fr a → RpKs K fr H ws es → Rp K fr H (.ref a) (.dict es)
inductive RpKs (K : PySem.W.Frag) (fr : Fz) (H : Hp) : List (Key × V) → List (PyData × PyData) → Prop
  | nil : RpKs K fr H [] []
  | int {i : Int} {v : V} {vs : List (Key × V)} {d : PyData} {ds : List (PyData × PyData)} : Rp K fr H v d → RpKs K fr H vs ds → RpKs K fr H ((.inl i, v) :: vs) ((.int i, d) :: ds)
  | str {x : Str} {v : V} {vs : List (Key × V)} {d : PyData} {ds : List (PyData × PyData)} : Rp K fr H v d → RpKs K fr H vs ds → RpKs K fr H ((.inr x, v) :: vs) ((.str x, d) :: ds)
inductive RpAll (K : PySem.W.Frag) (fr : Fz) (H : Hp) : List V → List PyData → Prop
  | nil : RpAll K fr H [] []
  | cons {v : V} {vs : List V} {d : PyData} {ds : List PyData} : Rp K fr H v d → RpAll K fr H vs ds → RpAll K fr H (v :: vs) (d :: ds)
end
/-- what a slot or an own list's place holds: data, an own object, any other value -/
inductive Sl where
  | d (x : PyData)
  | o (p : Addr)
  | v (u : V)
  | r (xs : List PyData)
  | tn
  | tc (a b : Sl)
/-- an own object: a list, a dict, an instance -/
inductive Cell where
  | l (xs : List Sl)
  | k (es : List (Key × Sl))
  | kt (es : List (List Key × Sl))
  | i (C : Addr) (fs : List (Str × Sl))
abbrev Store := Addr → Option Cell
def cset (st : Store) (p : Addr) (c : Cell) : Store := fun a => if a = p then some c else st a
abbrev sset (st : Store) (p : Addr) (xs : List Sl) : Store := cset st p (.l xs)
def sdel (st : Store) (p : Addr) : Store := fun a => if a = p then none else st a
theorem cset_same {st : Store} {p : Addr} {c : Cell} : cset st p c p = some c := if_pos rfl
theorem cset_ne {st : Store} {p q : Addr} {c : Cell} (h : q ≠ p) : cset st p c q = st q := if_neg h
theorem cset_cset {st : Store} {p : Addr} {c d : Cell} : cset (cset st p c) p d = cset st p d := by
  funext a
  unfold cset
  split <;> rfl
theorem cset_self {st : Store} {p : Addr} {c : Cell} (h : st p = some c) : cset st p c = st := by
  funext a
  unfold cset
  split
  · next e => rw [e, h]
  · rfl
theorem sset_same {st : Store} {p : Addr} {xs : List Sl} : sset st p xs p = some (.l xs) := cset_same
theorem sset_ne {st : Store} {p q : Addr} {xs : List Sl} (h : q ≠ p) : sset st p xs q = st q := cset_ne h
theorem sset_sset {st : Store} {p : Addr} {xs ys : List Sl} : sset (sset st p xs) p ys = sset st p ys := cset_cset
theorem sset_self {st : Store} {p : Addr} {xs : List Sl} (h : st p = some (.l xs)) : sset st p xs = st := cset_self h
/-- a list that is only read: the script, a list of the module -/
def RoL (K : PySem.W.Frag) (fr : Fz) (H : Hp) (v : V) (ds : List PyData) : Prop := ∃ a ws, v = .ref a ∧ RpAll K fr H ws ds ∧ ((∃ o, H a = some (.frz o (.lst ws))) ∨
  ∃ (o : Obj) (its : Array Value) (n : Nat), K.lookup a = some o ∧ o.cls = .type "list" ∧ o.dict = none ∧ o.data = .seq its n ∧ its.size ≤ sizeLine ∧ Vals ws its.toList)
/-- what a value is, by what is told of it; what a tuple's items are -/
def SlP (K : PySem.W.Frag) (fr : Fz) (H : Hp) : Sl → (V → Prop) × (List V → Prop)
  | .d x => (fun v => Rp K fr H v x, fun _ => False)
  | .o p => (fun v => v = .ref p, fun _ => False)
  | .v u => (fun v => v = u, fun _ => False)
  | .r ds => (fun v => RoL K fr H v ds, fun _ => False)
  | .tn => (fun v => ∃ t, v = .ref t ∧ SqT K H t [], fun vs => vs = [])
  | .tc a b => (fun v => ∃ t u us, v = .ref t ∧ SqT K H t (u :: us) ∧ (SlP K fr H a).1 u ∧ (SlP K fr H b).2 us, fun vs => ∃ u us, vs = u :: us ∧ (SlP K fr H a).1 u ∧ (SlP K fr H b).2 us)
abbrev SlR (K : PySem.W.Frag) (fr : Fz) (H : Hp) (v : V) (x : Sl) : Prop := (SlP K fr H x).1 v
inductive SlsR (K : PySem.W.Frag) (fr : Fz) (H : Hp) : List V → List Sl → Prop
  | nil : SlsR K fr H [] []
  | cons {v : V} {vs : List V} {x : Sl} {xs : List Sl} : SlR K fr H v x → SlsR K fr H vs xs → SlsR K fr H (v :: vs) (x :: xs)
/-- entries by keys -/
inductive KsR {κ : Type} (K : PySem.W.Frag) (fr : Fz) (H : Hp) : List (κ × V) → List (κ × Sl) → Prop
  | nil : KsR K fr H [] []
  | cons {k : κ} {v : V} {vs : List (κ × V)} {x : Sl} {xs : List (κ × Sl)} : SlR K fr H v x → KsR K fr H vs xs → KsR K fr H ((k, v) :: vs) ((k, x) :: xs)
/-- what an own object is in the abstract heap -/
def CellR (K : PySem.W.Frag) (fr : Fz) (H : Hp) (p : Addr) : Cell → Prop
  | .l xs => ∃ ws, H p = some (.lst ws) ∧ SlsR K fr H ws xs
  | .k es => ∃ ws, H p = some (.dK ws) ∧ KsR K fr H ws es
  | .kt es => ∃ ws, H p = some (.dT ws) ∧ KsR K fr H ws es
  | .i C fs => ∃ dx ws, H p = some (.ins C dx ws) ∧ H dx = some (.own p) ∧ ¬ fr dx ∧ KsR K fr H ws fs
/-- the sorts of own objects -/
def OwnO : HO → Prop
  | .lst _ => True
  | .dK _ => True
  | .dT _ => True
  | .ins _ _ _ => True
  | _ => False
/-- what stays as it is while own objects change -/
def Stay (st : Store) (a : Addr) : HO → Prop
  | .tup _ => True
  | .tbl _ => False
  | _ => st a = none
structure StR (K : PySem.W.Frag) (fr : Fz) (H : Hp) (st : Store) : Prop where
  own : ∀ p c, st p = some c → ¬ fr p ∧ CellR K fr H p c
  low : ∀ a, fr a → H a ≠ none
/-- from a state to a later one: what is not an own object stays; what is frozen or own behind was so or is new -/
structure Ext (fr : Fz) (H : Hp) (st : Store) (fr' : Fz) (H' : Hp) (st' : Store) : Prop where
  keep : ∀ a o, H a = some o → Stay st a o → H' a = some o
  there : ∀ a, H a ≠ none → H' a ≠ none
  frk : ∀ a, fr a → fr' a
  frn : ∀ a, fr' a → fr a ∨ H a = none ∨ st a ≠ none
  dom : ∀ a, st' a ≠ none → st a ≠ none ∨ H a = none
  lk : ∀ a xs, H a = some (.lst xs) → ∃ ys, H' a = some (.lst ys)
section
variable {K : PySem.W.Frag} {fr fr1 fr2 : Fz} {H H1 H2 : Hp} {st st1 st2 : Store}
theorem Ext.refl (fr : Fz) (H : Hp) (st : Store) : Ext fr H st fr H st := ⟨fun _ _ h _ => h, fun _ h => h, fun _ h => h, fun _ h => .inl h, fun _ h => .inl h, fun _ xs h => ⟨xs, h⟩⟩
theorem Stay.mono {st st1 : Store} {a : Addr} : ∀ {o : HO}, (st a = none → st1 a = none) → Stay st a o → Stay st1 a o
  | .lst _, h, e => h e
  | .tup _, _, _ => trivial
  | .dK _, h, e => h e
  | .dT _, h, e => h e
  | .set _ _, h, e => h e
  | .ins _ _ _, h, e => h e
  | .own _, h, e => h e
  | .xd _, h, e => h e
  | .met _ _, h, e => h e
  | .rng _ _, h, e => h e
  | .frz _ _, h, e => h e
  | .tbl _, _, e => e.elim
  | .ext _, h, e => h e
theorem Stay.of {st : Store} {a : Addr} {o : HO} (h : st a = none) (n : ∀ ps, o ≠ .tbl ps) : Stay st a o := by
  cases o <;> first | exact h | trivial | exact absurd rfl (n _)
theorem Ext.trans (a : Ext fr H st fr1 H1 st1) (b : Ext fr1 H1 st1 fr2 H2 st2) : Ext fr H st fr2 H2 st2 := by
  have dn : ∀ c, H c ≠ none → st c = none → st1 c = none := fun c h e => Classical.byContradiction fun z => (a.dom c z).elim (fun q => q e) fun q => h q
  refine ⟨fun c o h e => b.keep c o (a.keep c o h e) (e.mono (dn c (by rw [h]; simp))), fun c h => b.there c (a.there c h), fun c h => b.frk c (a.frk c h), fun c h => ?_, fun c h => ?_, ?_⟩
  · rcases b.frn c h with q | q | q
    · exact a.frn c q
    · exact .inr (.inl (Classical.byContradiction fun z => a.there c z q))
    · rcases a.dom c q with z | z
      · exact .inr (.inr z)
      · exact .inr (.inl z)
  · rcases b.dom c h with q | q
    · exact a.dom c q
    · exact .inr (Classical.byContradiction fun z => a.there c z q)
  · exact fun c xs h => let ⟨ys, q⟩ := a.lk c xs h; b.lk c ys q
def Ow (fr : Fz) (H : Hp) (st : Store) : Prop := ∀ p c, st p = some c → ¬ fr p ∧ ∃ o, H p = some o ∧ OwnO o
theorem CellR.ow {p : Addr} : ∀ {c : Cell}, CellR K fr H p c → ∃ o, H p = some o ∧ OwnO o
  | .l _, ⟨_, h, _⟩ => ⟨_, h, trivial⟩
  | .k _, ⟨_, h, _⟩ => ⟨_, h, trivial⟩
  | .kt _, ⟨_, h, _⟩ => ⟨_, h, trivial⟩
  | .i _ _, ⟨_, _, h, _⟩ => ⟨_, h, trivial⟩
theorem StR.ow (s : StR K fr H st) : Ow fr H st := fun p c h => ⟨(s.own p c h).1, (s.own p c h).2.ow⟩
theorem Ow.non (w : Ow fr H st) {a : Addr} {u : HO} (h : H a = some u) (hu : ¬ OwnO u) : st a = none := by
  cases e : st a with
  | none => rfl
  | some xs =>
    obtain ⟨_, o, q, ho⟩ := w a xs e
    rw [h] at q
    cases q
    exact absurd ho hu
theorem Ow.fz (w : Ow fr H st) {a : Addr} (h : fr a) : st a = none := by
  cases e : st a with
  | none => rfl
  | some xs => exact absurd h (w a xs e).1
theorem sqt_ex (w : Ow fr H st) (e : Ext fr H st fr1 H1 st1) {a : Addr} {xs : List V} (h : SqT K H a xs) : SqT K H1 a xs := by
  rcases h with (h | ⟨o, h⟩) | h
  · exact .inl (.inl (e.keep _ _ h trivial))
  · exact .inl (.inr ⟨o, e.keep _ _ h (w.non h fun z => z)⟩)
  · exact .inr h
mutual
theorem Rp.ex (w : Ow fr H st) (e : Ext fr H st fr1 H1 st1) : ∀ {v : V} {d : PyData}, Rp K fr H v d → Rp K fr1 H1 v d
  | _, _, .non => .non
  | _, _, .bl b => .bl b
  | _, _, .int i => .int i
  | _, _, .str x => .str x
  | _, _, .lst h f r => .lst (e.keep _ _ h (w.fz f)) (e.frk _ f) (RpAll.ex w e r)
  | _, _, .tup h r => .tup (sqt_ex w e h) (RpAll.ex w e r)
  | _, _, .dct h f r => .dct (e.keep _ _ h (w.fz f)) (e.frk _ f) (RpKs.ex w e r)
theorem RpKs.ex (w : Ow fr H st) (e : Ext fr H st fr1 H1 st1) : ∀ {vs : List (Key × V)} {ds : List (PyData × PyData)}, RpKs K fr H vs ds → RpKs K fr1 H1 vs ds
  | _, _, .nil => .nil
  | _, _, .int a b => .int (Rp.ex w e a) (RpKs.ex w e b)
  | _, _, .str a b => .str (Rp.ex w e a) (RpKs.ex w e b)
theorem RpAll.ex (w : Ow fr H st) (e : Ext fr H st fr1 H1 st1) : ∀ {vs : List V} {ds : List PyData}, RpAll K fr H vs ds → RpAll K fr1 H1 vs ds
  | _, _, .nil => .nil
  | _, _, .cons a b => .cons (Rp.ex w e a) (RpAll.ex w e b)
end
theorem SlP.ex (w : Ow fr H st) (e : Ext fr H st fr1 H1 st1) : ∀ {x : Sl}, (∀ v, (SlP K fr H x).1 v → (SlP K fr1 H1 x).1 v) ∧ ∀ vs, (SlP K fr H x).2 vs → (SlP K fr1 H1 x).2 vs
  | .d _ => ⟨fun _ h => Rp.ex w e h, fun _ h => h⟩
  | .o _ => ⟨fun _ h => h, fun _ h => h⟩
  | .v _ => ⟨fun _ h => h, fun _ h => h⟩
  | .r _ => ⟨fun _ ⟨a, ws, ev, ra, h⟩ => ⟨a, ws, ev, RpAll.ex w e ra, h.elim (fun ⟨o, q⟩ => .inl ⟨o, e.keep _ _ q (w.non q fun z => z)⟩) .inr⟩, fun _ h => h⟩
  | .tn => ⟨fun _ ⟨t, ev, h⟩ => ⟨t, ev, sqt_ex w e h⟩, fun _ h => h⟩
  | .tc a b => by
    have ia := SlP.ex w e (x := a)
    have ib := SlP.ex w e (x := b)
    exact ⟨fun _ ⟨t, u, us, ev, h, ha, hb⟩ => ⟨t, u, us, ev, sqt_ex w e h, ia.1 _ ha, ib.2 _ hb⟩, fun _ ⟨u, us, ev, ha, hb⟩ => ⟨u, us, ev, ia.1 _ ha, ib.2 _ hb⟩⟩
theorem SlR.ex (w : Ow fr H st) (e : Ext fr H st fr1 H1 st1) {v : V} {x : Sl} (h : SlR K fr H v x) : SlR K fr1 H1 v x := (SlP.ex w e).1 v h
theorem SlsR.ex (w : Ow fr H st) (e : Ext fr H st fr1 H1 st1) : ∀ {vs : List V} {xs : List Sl}, SlsR K fr H vs xs → SlsR K fr1 H1 vs xs
  | _, _, .nil => .nil
  | _, _, .cons a b => .cons (SlR.ex w e a) (SlsR.ex w e b)
theorem KsR.ex {κ : Type} (w : Ow fr H st) (e : Ext fr H st fr1 H1 st1) : ∀ {vs : List (κ × V)} {xs : List (κ × Sl)}, KsR K fr H vs xs → KsR K fr1 H1 vs xs
  | _, _, .nil => .nil
  | _, _, .cons a b => .cons (SlR.ex w e a) (KsR.ex w e b)
theorem KsR.length {κ : Type} : ∀ {vs : List (κ × V)} {ds : List (κ × Sl)}, KsR K fr H vs ds → vs.length = ds.length
  | _, _, .nil => rfl
  | _, _, .cons _ b => by rw [List.length_cons, List.length_cons, KsR.length b]
theorem KsR.keys {κ : Type} : ∀ {vs : List (κ × V)} {ds : List (κ × Sl)}, KsR K fr H vs ds → vs.map (·.1) = ds.map (·.1)
  | _, _, .nil => rfl
  | _, _, .cons _ b => by rw [List.map_cons, List.map_cons, KsR.keys b]
theorem CellR.ex (w : Ow fr H st) (e : Ext fr H st fr1 H1 st1) {p : Addr} (hp : H1 p = H p) : ∀ {c : Cell}, CellR K fr H p c → CellR K fr1 H1 p c
  | .l _, ⟨ws, a, b⟩ => ⟨ws, hp.trans a, b.ex w e⟩
  | .k _, ⟨ws, a, b⟩ => ⟨ws, hp.trans a, b.ex w e⟩
  | .kt _, ⟨ws, a, b⟩ => ⟨ws, hp.trans a, b.ex w e⟩
  | .i _ _, ⟨dx, ws, a, d, f, b⟩ => by
    have n : st dx = none := w.non d fun z => z
    refine ⟨dx, ws, hp.trans a, e.keep _ _ d n, fun z => ?_, b.ex w e⟩
    rcases e.frn _ z with q | q | q
    · exact f q
    · rw [d] at q
      cases q
    · exact q n
theorem RpAll.length : ∀ {vs : List V} {ds : List PyData}, RpAll K fr H vs ds → vs.length = ds.length
  | _, _, .nil => rfl
  | _, _, .cons _ b => by rw [List.length_cons, List.length_cons, RpAll.length b]
theorem SlsR.length : ∀ {vs : List V} {ds : List Sl}, SlsR K fr H vs ds → vs.length = ds.length
  | _, _, .nil => rfl
  | _, _, .cons _ b => by rw [List.length_cons, List.length_cons, SlsR.length b]
theorem SlsR.ofRp : ∀ {vs : List V} {ds : List PyData}, RpAll K fr H vs ds → SlsR K fr H vs (ds.map Sl.d)
  | _, _, .nil => .nil
  | _, _, .cons a b => .cons a (SlsR.ofRp b)
theorem SlsR.toRp : ∀ {vs : List V} {ds : List PyData}, SlsR K fr H vs (ds.map Sl.d) → RpAll K fr H vs ds
  | _, [], .nil => .nil
  | _, _ :: _, .cons a b => .cons a (SlsR.toRp b)
theorem RpAll.get : ∀ {vs : List V} {ds : List PyData} {i : Nat} {x : PyData}, RpAll K fr H vs ds → ds[i]? = some x → ∃ v, vs[i]? = some v ∧ Rp K fr H v x
  | _, _, _, _, .nil, e => by simp at e
  | _, _, 0, _, .cons a _, e => by
    simp at e
    subst e
    exact ⟨_, rfl, a⟩
  | _, _, i + 1, x, .cons _ b, e => by
    obtain ⟨v, h1, h2⟩ := RpAll.get (i := i) (x := x) b (by simpa using e)
    exact ⟨v, by simpa using h1, h2⟩
theorem SlsR.get : ∀ {vs : List V} {ds : List Sl} {i : Nat} {x : Sl}, SlsR K fr H vs ds → ds[i]? = some x → ∃ v, vs[i]? = some v ∧ SlR K fr H v x
  | _, _, _, _, .nil, e => by simp at e
  | _, _, 0, _, .cons a _, e => by
    simp at e
    subst e
    exact ⟨_, rfl, a⟩
  | _, _, i + 1, x, .cons _ b, e => by
    obtain ⟨v, h1, h2⟩ := SlsR.get (i := i) (x := x) b (by simpa using e)
    exact ⟨v, by simpa using h1, h2⟩
theorem SlsR.app : ∀ {vs ws : List V} {ds es : List Sl}, SlsR K fr H vs ds → SlsR K fr H ws es → SlsR K fr H (vs ++ ws) (ds ++ es)
  | _, _, _, _, .nil, b => b
  | _, _, _, _, .cons a b, c => .cons a (SlsR.app b c)
theorem SlsR.put {v : V} {x : Sl} (h : SlR K fr H v x) : ∀ {vs : List V} {ds : List Sl} (i : Nat), SlsR K fr H vs ds → SlsR K fr H (vs.set i v) (ds.set i x)
  | _, _, _, .nil => .nil
  | _, _, 0, .cons _ b => .cons h b
  | _, _, i + 1, .cons a b => .cons a (SlsR.put h i b)
theorem SlsR.cut : ∀ {vs : List V} {ds : List Sl} (n : Nat), SlsR K fr H vs ds → SlsR K fr H (vs.take n) (ds.take n)
  | _, _, 0, _ => .nil
  | _, _, _ + 1, .nil => .nil
  | _, _, n + 1, .cons a b => .cons a (SlsR.cut n b)
theorem SlsR.off : ∀ {vs : List V} {ds : List Sl} (n : Nat), SlsR K fr H vs ds → SlsR K fr H (vs.drop n) (ds.drop n)
  | _, _, 0, h => h
  | _, _, _ + 1, .nil => .nil
  | _, _, n + 1, .cons _ b => SlsR.off n b
theorem SlsR.era : ∀ {vs : List V} {ds : List Sl} (n : Nat), SlsR K fr H vs ds → SlsR K fr H (vs.eraseIdx n) (ds.eraseIdx n)
  | _, _, 0, .nil => .nil
  | _, _, _ + 1, .nil => .nil
  | _, _, 0, .cons _ b => b
  | _, _, n + 1, .cons a b => .cons a (SlsR.era n b)
theorem SlsR.rev : ∀ {vs : List V} {ds : List Sl}, SlsR K fr H vs ds → SlsR K fr H vs.reverse ds.reverse
  | _, _, .nil => .nil
  | _, _, .cons a b => by
    rw [List.reverse_cons, List.reverse_cons]
    exact (SlsR.rev b).app (.cons a .nil)
/-! ### a state -/
abbrev Sls := List (Option Sl)
structure Wd (K : PySem.W.Frag) (fr : Fz) (H : Hp) (σ : L2.St) (ρ : Sls) (st : Store) : Prop where
  len : ρ.length = σ.length
  env : ∀ (i : Nat) (x : Sl), ρ[i]? = some (some x) → ∃ v, σ[i]? = some (some v) ∧ SlR K fr H v x
  sto : StR K fr H st
theorem Wd.ow {σ : L2.St} {ρ : Sls} (w : Wd K fr H σ ρ st) : Ow fr H st := w.sto.ow
/-- the names as they were, behind an extension -/
theorem Wd.on {σ : L2.St} {ρ : Sls} (w : Wd K fr H σ ρ st) (e : Ext fr H st fr1 H1 st1) (s : StR K fr1 H1 st1) : Wd K fr1 H1 σ ρ st1 :=
  ⟨w.len, fun i x h => let ⟨v, a, b⟩ := w.env i x h; ⟨v, a, SlR.ex w.ow e b⟩, s⟩
theorem Wd.put {σ : L2.St} {ρ : Sls} (w : Wd K fr H σ ρ st) {v : V} {x : Sl} (h : SlR K fr H v x) (i : Nat) : Wd K fr H (σ.set i (some v)) (ρ.set i (some x)) st := by
  refine ⟨by rw [List.length_set, List.length_set, w.len], fun j y hj => ?_, w.sto⟩
  by_cases e : i = j
  · subst e
    have hl : i < ρ.length := by
      have q := (List.getElem?_eq_some_iff.mp hj).1
      rwa [List.length_set] at q
    rw [List.getElem?_set_self hl] at hj
    cases hj
    exact ⟨v, by rw [List.getElem?_set_self (by rw [← w.len]; exact hl)], h⟩
  · rw [List.getElem?_set_ne e] at hj
    rw [List.getElem?_set_ne e]
    exact w.env j y hj
/-- a new object that is no own list -/
theorem Ext.new {a : Addr} {o : HO} (n : H a = none) : Ext fr H st fr (upd H a o) st :=
  ⟨fun b u h _ => by rw [upd_ne (ne_of_none h n)]; exact h, fun b h z => by
    by_cases e : b = a
    · rw [e, upd_same] at z
      cases z
    · rw [upd_ne e] at z
      exact h z, fun _ h => h, fun _ h => .inl h, fun _ h => .inl h, fun b xs h => ⟨xs, by rw [upd_ne (ne_of_none h n)]; exact h⟩⟩
theorem StR.ex (s : StR K fr H st) (e : Ext fr H st fr1 H1 st) (k : ∀ p c, st p = some c → ¬ fr1 p ∧ H1 p = H p) (l : ∀ a, fr1 a → H1 a ≠ none) : StR K fr1 H1 st := ⟨fun p c h => by
  obtain ⟨n, q⟩ := k p c h
  exact ⟨n, (s.own p c h).2.ex s.ow e q⟩, l⟩
theorem StR.own' (s : StR K fr H st) {p : Addr} {xs : List Sl} (h : st p = some (.l xs)) : ¬ fr p ∧ ∃ ws, H p = some (.lst ws) ∧ SlsR K fr H ws xs := s.own p _ h
theorem StR.there (s : StR K fr H st) {p : Addr} {c : Cell} (h : st p = some c) : H p ≠ none := fun z => by
  obtain ⟨o, q, _⟩ := (s.own p c h).2.ow
  rw [z] at q
  cases q
theorem StR.new {a : Addr} {o : HO} (s : StR K fr H st) (n : H a = none) : StR K fr (upd H a o) st := s.ex (Ext.new n) (fun p c h => by
  refine ⟨(s.own p c h).1, upd_ne fun z => s.there h (z ▸ n)⟩) fun b h => (Ext.new (st := st) (fr := fr) n).there b (s.low b h)
/-- a new own object -/
theorem Ext.ownC {a : Addr} {o : HO} {c : Cell} (n : H a = none) : Ext fr H st fr (upd H a o) (cset st a c) := by
  refine ⟨(Ext.new (st := st) (fr := fr) n).keep, (Ext.new (st := st) (fr := fr) n).there, fun _ h => h, fun _ h => .inl h, fun b h => ?_, (Ext.new (st := st) (fr := fr) n).lk⟩
  by_cases e : b = a
  · exact .inr (e ▸ n)
  · rw [cset_ne e] at h
    exact .inl h
theorem Ext.own {a : Addr} {o : HO} {ys : List Sl} (n : H a = none) : Ext fr H st fr (upd H a o) (sset st a ys) := Ext.ownC n
theorem StR.nost (s : StR K fr H st) {a : Addr} (n : H a = none) : st a = none := by
  cases e : st a with
  | none => rfl
  | some c => exact absurd n (s.there e)
/-- a new own object is there -/
theorem StR.ownC {a : Addr} {o : HO} {c : Cell} (s : StR K fr H st) (n : H a = none) (r : CellR K fr (upd H a o) a c) : StR K fr (upd H a o) (cset st a c) := by
  refine ⟨fun p d h => ?_, fun b h => (Ext.new (st := st) (fr := fr) n).there b (s.low b h)⟩
  by_cases e : p = a
  · subst e
    rw [cset_same] at h
    cases h
    exact ⟨fun z => s.low _ z n, r⟩
  · rw [cset_ne e] at h
    exact ⟨(s.own p d h).1, (s.own p d h).2.ex s.ow (Ext.new n) (upd_ne e)⟩
/-- an own object is changed -/
theorem ext_cset {p : Addr} {o : HO} {c d : Cell} (h : st p = some c) (t : ∀ ws, H p ≠ some (.tup ws)) (l : ∀ xs, H p = some (.lst xs) → ∃ ys, o = .lst ys) : Ext fr H st fr (upd H p o) (cset st p d) := by
  refine ⟨fun a u ha hs => ?_, fun a ha => ?_, fun _ z => z, fun _ z => .inl z, fun a ha => ?_, fun a xs ha => ?_⟩
  · by_cases e : a = p
    · subst e
      cases u with
      | tup ws => exact absurd ha (t ws)
      | tbl ps => exact hs.elim
      | _ => exact absurd (h.symm.trans hs) (by simp)
    · rw [upd_ne e]
      exact ha
  · by_cases e : a = p
    · rw [e, upd_same]
      simp
    · rw [upd_ne e]
      exact ha
  · by_cases e : a = p
    · exact .inl (by rw [e, h]; simp)
    · rw [cset_ne e] at ha
      exact .inl ha
  · by_cases e : a = p
    · subst e
      obtain ⟨ys, rfl⟩ := l xs ha
      exact ⟨ys, upd_same⟩
    · exact ⟨xs, by rw [upd_ne e]; exact ha⟩
theorem str_cset {p : Addr} {o : HO} {c d : Cell} (h : st p = some c) (t : ∀ ws, H p ≠ some (.tup ws)) (l : ∀ xs, H p = some (.lst xs) → ∃ ys, o = .lst ys) (s : StR K fr H st) (r : CellR K fr (upd H p o) p d) : StR K fr (upd H p o) (cset st p d) := by
  have e : Ext fr H st fr (upd H p o) (cset st p d) := ext_cset h t l
  refine ⟨fun a q ha => ?_, fun a ha => e.there a (s.low a ha)⟩
  by_cases hap : a = p
  · subst hap
    rw [cset_same] at ha
    cases ha
    exact ⟨(s.own _ _ h).1, r⟩
  · rw [cset_ne hap] at ha
    exact ⟨(s.own a q ha).1, (s.own a q ha).2.ex s.ow e (upd_ne hap)⟩
end
end DL
namespace DL
open PySem PySem.Spec PyProof.Rows L2
/-! ### readings over data -/
abbrev KD := Sl → Store → Prop
abbrev DTE := Sls → Store → KD → Prop
abbrev DTT := Sls → Store → (Bool → Store → Prop) → Prop
abbrev DTA := Sls → Store → (List Sl → Store → Prop) → Prop
structure DEnds where
  nx : Sls → Store → Prop
  rt : KD
  bk : Sls → Store → Prop := fun _ _ => False
  ct : Sls → Store → Prop := fun _ _ => False
abbrev DTS := DEnds → Sls → Store → Prop
section
variable (K : PySem.W.Frag)
def QE (fr : Fz) (H : Hp) (st : Store) (k : KD) (Q : VK) : Prop := ∀ x st' fr' H' v, k x st' → Ext fr H st fr' H' st' → StR K fr' H' st' → SlR K fr' H' v x → Q v H'
def QT (fr : Fz) (H : Hp) (st : Store) (k : Bool → Store → Prop) (Q : Bool → Hp → Prop) : Prop := ∀ b st' fr' H', k b st' → Ext fr H st fr' H' st' → StR K fr' H' st' → Q b H'
def QA (fr : Fz) (H : Hp) (st : Store) (k : List Sl → Store → Prop) (Q : List V → Hp → Prop) : Prop := ∀ xs st' fr' H' vs, k xs st' → Ext fr H st fr' H' st' → StR K fr' H' st' → SlsR K fr' H' vs xs → Q vs H'
def QS (fr : Fz) (H : Hp) (st : Store) (k : Sls → Store → Prop) (Q : L2.St → Hp → Prop) : Prop := ∀ ρ' st' fr' H' σ', k ρ' st' → Ext fr H st fr' H' st' → Wd K fr' H' σ' ρ' st' → Q σ' H'
structure QD (fr : Fz) (H : Hp) (st : Store) (e : DEnds) (D : Ends) : Prop where
  nx : QS K fr H st e.nx D.nx
  rt : QE K fr H st e.rt D.rt
  bk : QS K fr H st e.bk D.bk
  ct : QS K fr H st e.ct D.ct
def LE (t : DTE) : TE := fun σ H Q => ∃ fr ρ st k, Wd K fr H σ ρ st ∧ t ρ st k ∧ QE K fr H st k Q
def LT (t : DTT) : TT := fun σ H Q => ∃ fr ρ st k, Wd K fr H σ ρ st ∧ t ρ st k ∧ QT K fr H st k Q
def LA (t : DTA) : TA := fun σ H Q => ∃ fr ρ st k, Wd K fr H σ ρ st ∧ t ρ st k ∧ QA K fr H st k Q
def LS (t : DTS) : TS := fun D σ H => ∃ fr ρ st e, Wd K fr H σ ρ st ∧ t e ρ st ∧ QD K fr H st e D
end
abbrev DE (X : Cx) (e : Expr) (t : DTE) : Prop := PE X e (LE X.K t)
abbrev DT (X : Cx) (e : Expr) (t : DTT) : Prop := PT X e (LT X.K t)
abbrev DW (X : Cx) (e : Expr) (t : DTT) : Prop := PW X e (LT X.K t)
abbrev DA (X : Cx) (es : List Expr) (t : DTA) : Prop := PA X es (LA X.K t)
abbrev DS (X : Cx) (s : Stmt) (t : DTS) : Prop := PS X s (LS X.K t)
abbrev DSs (X : Cx) (s : List Stmt) (t : DTS) : Prop := PSs X s (LS X.K t)
theorem pe_imp {X : Cx} {e : Expr} {t t' : TE} (h : PE X e t) (i : ∀ σ H Q, t' σ H Q → t σ H Q) : PE X e t' := ⟨fun pins s σ H Q I q => h.run pins s σ H Q I (i _ _ _ q)⟩
theorem pt_imp {X : Cx} {e : Expr} {t t' : TT} (h : PT X e t) (i : ∀ σ H Q, t' σ H Q → t σ H Q) : PT X e t' := ⟨fun pins s σ H Q I q => h.run pins s σ H Q I (i _ _ _ q)⟩
theorem pw_imp {X : Cx} {e : Expr} {t t' : TT} (h : PW X e t) (i : ∀ σ H Q, t' σ H Q → t σ H Q) : PW X e t' := ⟨fun wh pins s σ H Q I q => h.run wh pins s σ H Q I (i _ _ _ q)⟩
theorem pa_imp {X : Cx} {e : List Expr} {t t' : TA} (h : PA X e t) (i : ∀ σ H Q, t' σ H Q → t σ H Q) : PA X e t' := ⟨fun pos pins s σ H Q I q => h.run pos pins s σ H Q I (i _ _ _ q)⟩
theorem ps_imp {X : Cx} {e : Stmt} {t t' : TS} (h : PS X e t) (i : ∀ D σ H, t' D σ H → t D σ H) : PS X e t' := ⟨fun pins s σ H D I q => h.run pins s σ H D I (i _ _ _ q)⟩
theorem pss_imp {X : Cx} {e : List Stmt} {t t' : TS} (h : PSs X e t) (i : ∀ D σ H, t' D σ H → t D σ H) : PSs X e t' := ⟨fun pins s σ H D I q => h.run pins s σ H D I (i _ _ _ q)⟩
section
variable {K : PySem.W.Frag} {fr fr1 : Fz} {H H1 : Hp} {st st1 : Store}
theorem QE.at {k : KD} {Q : VK} (q : QE K fr H st k Q) (e : Ext fr H st fr1 H1 st1) : QE K fr1 H1 st1 k Q := fun x st' fr' H' v a b c d => q x st' fr' H' v a (e.trans b) c d
theorem QT.at {k : Bool → Store → Prop} {Q : Bool → Hp → Prop} (q : QT K fr H st k Q) (e : Ext fr H st fr1 H1 st1) : QT K fr1 H1 st1 k Q := fun x st' fr' H' a b c => q x st' fr' H' a (e.trans b) c
theorem QA.at {k : List Sl → Store → Prop} {Q : List V → Hp → Prop} (q : QA K fr H st k Q) (e : Ext fr H st fr1 H1 st1) : QA K fr1 H1 st1 k Q := fun x st' fr' H' v a b c d => q x st' fr' H' v a (e.trans b) c d
theorem QS.at {k : Sls → Store → Prop} {Q : L2.St → Hp → Prop} (q : QS K fr H st k Q) (e : Ext fr H st fr1 H1 st1) : QS K fr1 H1 st1 k Q := fun x st' fr' H' v a b c => q x st' fr' H' v a (e.trans b) c
theorem QD.at {k : DEnds} {D : Ends} (q : QD K fr H st k D) (e : Ext fr H st fr1 H1 st1) : QD K fr1 H1 st1 k D := ⟨q.nx.at e, q.rt.at e, q.bk.at e, q.ct.at e⟩
theorem QE.now {k : KD} {Q : VK} (q : QE K fr H st k Q) {x : Sl} {v : V} (h : k x st) (s : StR K fr H st) (r : SlR K fr H v x) : Q v H := q x st fr H v h (Ext.refl _ _ _) s r
theorem QT.now {k : Bool → Store → Prop} {Q : Bool → Hp → Prop} (q : QT K fr H st k Q) {b : Bool} (h : k b st) (s : StR K fr H st) : Q b H := q b st fr H h (Ext.refl _ _ _) s
theorem QS.now {k : Sls → Store → Prop} {Q : L2.St → Hp → Prop} (q : QS K fr H st k Q) {ρ : Sls} {σ : L2.St} (h : k ρ st) (w : Wd K fr H σ ρ st) : Q σ H := q ρ st fr H σ h (Ext.refl _ _ _) w
/-- a tuple is made -/
theorem QE.tup {k : KD} {Q : VK} (q : QE K fr H st k Q) (s : StR K fr H st) {vs : List V} {ds : List PyData} (r : RpAll K fr H vs ds) (h : k (.d (.tuple ds)) st) {p : Addr} (n : H p = none) : Q (.ref p) (upd H p (.tup vs)) :=
  q (.d (.tuple ds)) st fr _ _ h (Ext.new n) (s.new n) (.tup (SqT.of upd_same) (RpAll.ex s.ow (Ext.new n) r))
/-- what a new list may be told as: frozen, of data; or an own list -/
def dNew (xs : List Sl) (st : Store) (k : KD) : Prop := (∃ ds : List PyData, xs = ds.map Sl.d ∧ k (.d (.list ds)) st) ∨ ∀ p, st p = none → k (.o p) (sset st p xs)
theorem ext_fz {a : Addr} {o : HO} (n : H a = none) : Ext fr H st (fun b => fr b ∨ b = a) (upd H a o) st :=
  ⟨(Ext.new (st := st) (fr := fr) n).keep, (Ext.new (st := st) (fr := fr) n).there, fun _ h => .inl h, fun _ h => h.elim .inl fun e => .inr (.inl (e ▸ n)), fun _ h => .inl h, (Ext.new (st := st) (fr := fr) n).lk⟩
theorem fz_low {p : Addr} {o : HO} (s : StR K fr H st) (n : H p = none) : ∀ b, (fr b ∨ b = p) → upd H p o b ≠ none := fun b hb => by
  rcases hb with hb | rfl
  · exact (Ext.new (st := st) (fr := fr) n).there b (s.low b hb)
  · rw [upd_same]
    simp
theorem str_fz {p : Addr} {o : HO} (s : StR K fr H st) (n : H p = none) : StR K (fun b => fr b ∨ b = p) (upd H p o) st :=
  s.ex (ext_fz n) (fun a c ha => ⟨fun z => z.elim (s.own a c ha).1 fun z => s.there ha (z ▸ n), upd_ne fun z => s.there ha (z ▸ n)⟩) (fz_low s n)
theorem QE.lst {k : KD} {Q : VK} (q : QE K fr H st k Q) (s : StR K fr H st) {vs : List V} {xs : List Sl} (r : SlsR K fr H vs xs) (h : dNew xs st k) {p : Addr} (n : H p = none) : Q (.ref p) (upd H p (.lst vs)) := by
  rcases h with ⟨ds, rfl, h⟩ | h
  · have e : Ext fr H st (fun b => fr b ∨ b = p) (upd H p (.lst vs)) st := ext_fz n
    exact q (.d (.list ds)) st _ _ _ h e (str_fz s n) (.lst upd_same (.inr rfl) (RpAll.ex s.ow e r.toRp))
  · exact q (.o p) _ fr _ _ (h p (s.nost n)) (Ext.own n) (s.ownC n ⟨vs, upd_same, r.ex s.ow (Ext.new n)⟩) rfl
theorem lst_ntup {p : Addr} {xs : List Sl} (h : st p = some (.l xs)) (s : StR K fr H st) : ∀ ws, H p ≠ some (.tup ws) := fun ws z => by
  obtain ⟨_, us, hu, _⟩ := s.own p _ h
  rw [hu] at z
  cases z
/-- an own list is changed -/
theorem ext_set {p : Addr} {xs ys : List Sl} {ws : List V} (h : st p = some (.l xs)) (s : StR K fr H st) : Ext fr H st fr (upd H p (.lst ws)) (sset st p ys) := ext_cset h (lst_ntup h s) fun _ _ => ⟨_, rfl⟩
theorem str_set {p : Addr} {xs ys : List Sl} {ws : List V} (h : st p = some (.l xs)) (s : StR K fr H st) (r : SlsR K fr H ws ys) : StR K fr (upd H p (.lst ws)) (sset st p ys) :=
  str_cset h (lst_ntup h s) (fun _ _ => ⟨_, rfl⟩) s ⟨ws, upd_same, r.ex s.ow (ext_set h s (ys := ys))⟩
end
/-- a tuple's items; a tuple of things -/
def itT : Sl → List Sl
  | .tc a b => a :: itT b
  | _ => []
def mkT : List Sl → Sl
  | [] => .tn
  | x :: xs => .tc x (mkT xs)
section
variable {K : PySem.W.Frag} {fr fr1 : Fz} {H H1 : Hp} {st st1 : Store}
theorem itT_at : ∀ {x : Sl} {vs : List V}, (SlP K fr H x).2 vs → SlsR K fr H vs (itT x)
  | .d _, _, h => h.elim
  | .o _, _, h => h.elim
  | .v _, _, h => h.elim
  | .r _, _, h => h.elim
  | .tn, vs, h => by
    obtain rfl : vs = [] := h
    exact .nil
  | .tc a b, vs, h => by
    obtain ⟨u, us, rfl, ha, hb⟩ := h
    exact .cons ha (itT_at hb)
theorem mkT_at : ∀ {xs : List Sl} {vs : List V}, SlsR K fr H vs xs → (SlP K fr H (mkT xs)).2 vs
  | [], _, .nil => rfl
  | x :: xs, _, .cons a b => ⟨_, _, rfl, a, mkT_at b⟩
theorem mkT_val {xs : List Sl} {vs : List V} {t : Addr} (r : SlsR K fr H vs xs) (h : SqT K H t vs) : SlR K fr H (.ref t) (mkT xs) := by
  cases xs with
  | nil =>
    cases r
    exact ⟨t, rfl, h⟩
  | cons x xs =>
    cases r with
    | cons a b => exact ⟨t, _, _, rfl, h, a, mkT_at b⟩
theorem itT_mk : ∀ xs : List Sl, itT (mkT xs) = xs
  | [] => rfl
  | x :: xs => by
    show x :: itT (mkT xs) = _
    rw [itT_mk xs]
end
/-! ### names, constants -/
def dVar (i : Nat) : DTE := fun ρ st k => match ρ[i]? with
  | some (some x) => k x st
  | _ => False
def dC (x : PyData) : DTE := fun _ st k => k (.d x) st
def dV (v : V) : DTE := fun _ st k => k (.v v) st
section
variable {X : Cx} {pos : Pos}
theorem dv (i : Nat) {x : Str} (hN : X.N[i]? = some x := by rfl) (hv : Vis X.env.scope x := by first | exact Or.inl rfl | exact Or.inr (Or.inl rfl) | exact Or.inr (Or.inr rfl)) (hd : (x == ("__debug__" : Str)) = false := by decide)
    (hcd : (x == ("__classdict__" : Str)) = false := by decide) : DE X (.Name x pos) (dVar i) := pe_imp (pe_var hN hv hd hcd) fun σ H Q ⟨fr, ρ, st, k, w, h, q⟩ => by
  unfold dVar at h
  split at h
  · next x hx =>
    obtain ⟨v, e, r⟩ := w.env i x hx
    exact ⟨v, e, q.now h w.sto r⟩
  · exact h.elim
theorem d_int {i j} : DE X (.Constant (.int i) j pos) (dC (.int i)) := pe_imp pe_int fun σ H Q ⟨fr, ρ, st, k, w, h, q⟩ => q.now h w.sto (.int i)
theorem d_bl {b j} : DE X (.Constant (.bool b) j pos) (dC (.bool b)) := pe_imp pe_bl fun σ H Q ⟨fr, ρ, st, k, w, h, q⟩ => q.now h w.sto (.bl b)
theorem d_non {j} : DE X (.Constant .none j pos) (dC .none) := pe_imp pe_non fun σ H Q ⟨fr, ρ, st, k, w, h, q⟩ => q.now h w.sto .non
theorem d_str {x j} : DE X (.Constant (.str x) j pos) (dC (.str x)) := pe_imp pe_str fun σ H Q ⟨fr, ρ, st, k, w, h, q⟩ => q.now h w.sto (.str x)
end
/-! ### operators -/
abbrev D2 := Sl → Sl → Store → KD → Prop
abbrev D1 := Sl → Store → KD → Prop
abbrev DL1 := List Sl → Store → KD → Prop
def R2D (K : PySem.W.Frag) (r : R2) (f : D2) : Prop := ∀ fr H st x y sx sy k Q, StR K fr H st → SlR K fr H x sx → SlR K fr H y sy → f sx sy st k → QE K fr H st k Q → r x y H Q
def R1D (K : PySem.W.Frag) (r : V → Hp → VK → Prop) (f : D1) : Prop := ∀ fr H st x sx k Q, StR K fr H st → SlR K fr H x sx → f sx st k → QE K fr H st k Q → r x H Q
def RLD (K : PySem.W.Frag) (r : List V → Hp → VK → Prop) (f : DL1) : Prop := ∀ fr H st xs sxs k Q, StR K fr H st → SlsR K fr H xs sxs → f sxs st k → QE K fr H st k Q → r xs H Q
def dOp (f : D2) (ta tb : DTE) : DTE := fun ρ st k => ta ρ st fun x st1 => tb ρ st1 fun y st2 => f x y st2 k
def dUn (f : D1) (ta : DTE) : DTE := fun ρ st k => ta ρ st fun x st1 => f x st1 k
section
variable {X : Cx} {pos : Pos} {a b c : Expr} {ta tb tc : DTE} {r r' : R2} {f f' : D2}
theorem le_op {K : PySem.W.Frag} (h : R2D K r f) {σ : L2.St} {H : Hp} {Q : VK} : LE K (dOp f ta tb) σ H Q → tOp r (LE K ta) (LE K tb) σ H Q := by
  rintro ⟨fr, ρ, st, k, w, h1, q⟩
  refine ⟨fr, ρ, st, _, w, h1, fun x st1 fr1 H1 v k1 e1 s1 r1 => ?_⟩
  refine ⟨fr1, ρ, st1, _, w.on e1 s1, k1, fun y st2 fr2 H2 u k2 e2 s2 r2 => ?_⟩
  exact h fr2 H2 st2 v u x y k Q s2 (r1.ex s1.ow e2) r2 k2 (q.at (e1.trans e2))
theorem le_un {K : PySem.W.Frag} {r : V → Hp → VK → Prop} {f : D1} (h : R1D K r f) {σ : L2.St} {H : Hp} {Q : VK} : LE K (dUn f ta) σ H Q → tUn r (LE K ta) σ H Q := by
  rintro ⟨fr, ρ, st, k, w, h1, q⟩
  refine ⟨fr, ρ, st, _, w, h1, fun x st1 fr1 H1 v k1 e1 s1 r1 => ?_⟩
  exact h fr1 H1 st1 v x k Q s1 r1 k1 (q.at e1)
theorem d_op {op : Operator} (ho : OpR X (binaryOp op) r) (h : R2D X.K r f) (ha : DE X a ta) (hb : DE X b tb) : DE X (.BinOp a op b pos) (dOp f ta tb) := pe_imp (pe_op ho ha hb) fun _ _ _ => le_op h
theorem d_un {op : UnaryOp} {r : V → Hp → VK → Prop} {f : D1} (ho : UnR X (unaryOp op) r) (h : R1D X.K r f) (ha : DE X a ta) : DE X (.UnaryOp op a pos) (dUn f ta) := pe_imp (pe_un ho ha) fun _ _ _ => le_un h
theorem d_cmp {op : CmpOp} (ho : OpR X (compareOp op) r) (h : R2D X.K r f) (ha : DE X a ta) (hb : DE X b tb) (hm : behindInMarks op b = false) : DE X (.Compare a [op] [b] pos) (dOp f ta tb) := pe_imp (pe_cmpR ho ha hb hm) fun _ _ _ => le_op h
/-- a value as a test: it must be a truth -/
def dB (t : DTE) : DTT := fun ρ st k => t ρ st fun x st1 => match x with
  | .d (.bool b) => k b st1
  | _ => False
theorem rp_bool {K : PySem.W.Frag} {fr : Fz} {H : Hp} {v : V} {b : Bool} (h : Rp K fr H v (.bool b)) : v = .bl b := by cases h; rfl
theorem rp_int {K : PySem.W.Frag} {fr : Fz} {H : Hp} {v : V} {b : Int} (h : Rp K fr H v (.int b)) : v = .int b := by cases h; rfl
theorem rp_str {K : PySem.W.Frag} {fr : Fz} {H : Hp} {v : V} {b : Str} (h : Rp K fr H v (.str b)) : v = .str b := by cases h; rfl
theorem rp_none {K : PySem.W.Frag} {fr : Fz} {H : Hp} {v : V} (h : Rp K fr H v .none) : v = .non := by cases h; rfl
theorem lt_test {K : PySem.W.Frag} {t : DTE} {σ : L2.St} {H : Hp} {Q : Bool → Hp → Prop} : LT K (dB t) σ H Q → tTest (LE K t) σ H Q := by
  rintro ⟨fr, ρ, st, k, w, h1, q⟩
  refine ⟨fr, ρ, st, _, w, h1, fun x st1 fr1 H1 v k1 e1 s1 r1 => ?_⟩
  split at k1
  · exact ⟨_, rp_bool r1, q _ _ _ _ k1 e1 s1⟩
  · exact k1.elim
theorem t_cmp {op : CmpOp} (ho : OpR X (compareOp op) r) (h : R2D X.K r f) (ha : DE X a ta) (hb : DE X b tb) (hm : behindInMarks op b = false) : DT X (.Compare a [op] [b] pos) (dB (dOp f ta tb)) :=
  pt_imp (pt_cmpR ho ha hb hm) fun σ H Q h1 => by
    obtain ⟨fr, ρ, st, k, w, h2, q⟩ := h1
    exact le_op h ⟨fr, ρ, st, _, w, h2, fun x st1 fr1 H1 v k1 e1 s1 r1 => by
      split at k1
      · exact ⟨_, rp_bool r1, q _ _ _ _ k1 e1 s1⟩
      · exact k1.elim⟩
theorem t_val {e : Expr} {t : DTE} (h : DE X e t) (he : ∀ whole, isTrue e X.env whole = (do let v ← whole; standAt e.pos; holding [v] (truthy v)) := by intro _; rfl) : DT X e (dB t) := pt_imp (pt_val h he) fun _ _ _ => lt_test
def dChain (f f' : D2) (ta tb tc : DTE) : DTE := fun ρ st k => ta ρ st fun x st1 => tb ρ st1 fun y st2 => f x y st2 fun z st3 => match z with
  | .d (.bool true) => tc ρ st3 fun u st4 => f' y u st4 k
  | .d (.bool false) => k (.d (.bool false)) st3
  | _ => False
theorem le_chain {K : PySem.W.Frag} (h : R2D K r f) (h' : R2D K r' f') {σ : L2.St} {H : Hp} {Q : VK} : LE K (dChain f f' ta tb tc) σ H Q → tChain r r' (LE K ta) (LE K tb) (LE K tc) σ H Q := by
  rintro ⟨fr, ρ, st, k, w, h1, q⟩
  refine ⟨fr, ρ, st, _, w, h1, fun x st1 fr1 H1 v k1 e1 s1 r1 => ?_⟩
  refine ⟨fr1, ρ, st1, _, w.on e1 s1, k1, fun y st2 fr2 H2 u k2 e2 s2 r2 => ?_⟩
  refine h fr2 H2 st2 v u x y _ _ s2 (r1.ex s1.ow e2) r2 k2 fun z st3 fr3 H3 z' k3 e3 s3 r3 => ?_
  have e13 := (e1.trans e2).trans e3
  split at k3
  · refine ⟨true, rp_bool r3, ?_⟩
    rw [if_pos rfl]
    refine ⟨fr3, ρ, st3, _, w.on e13 s3, k3, fun u' st4 fr4 H4 v4 k4 e4 s4 r4 => ?_⟩
    exact h' fr4 H4 st4 u v4 y u' k Q s4 (r2.ex s2.ow (e3.trans e4)) r4 k4 (q.at (e13.trans e4))
  · refine ⟨false, rp_bool r3, ?_⟩
    rw [if_neg Bool.false_ne_true]
    exact q _ _ _ _ _ k3 e13 s3 (.bl false)
  · exact k3.elim
theorem d_chain {op op' : CmpOp} (ho : OpR X (compareOp op) r) (h : R2D X.K r f) (ho' : OpR X (compareOp op') r') (h' : R2D X.K r' f') (ha : DE X a ta) (hb : DE X b tb) (hc : DE X c tc)
    (hm : lastMarks [op, op'] [b, c] = false := by with_unfolding_all rfl) : DE X (.Compare a [op, op'] [b, c] pos) (dChain f f' ta tb tc) := pe_imp (pe_chain ho ho' ha hb hc hm) fun _ _ _ => le_chain h h'
theorem t_chain {op op' : CmpOp} (ho : OpR X (compareOp op) r) (h : R2D X.K r f) (ho' : OpR X (compareOp op') r') (h' : R2D X.K r' f') (ha : DE X a ta) (hb : DE X b tb) (hc : DE X c tc)
    (hm : lastMarks [op, op'] [b, c] = false := by with_unfolding_all rfl) : DT X (.Compare a [op, op'] [b, c] pos) (dB (dChain f f' ta tb tc)) := pt_imp (pt_chain ho ho' ha hb hc hm) fun σ H Q h1 => by
    obtain ⟨fr, ρ, st, k, w, h2, q⟩ := h1
    exact le_chain h h' ⟨fr, ρ, st, _, w, h2, fun x st1 fr1 H1 v k1 e1 s1 r1 => by
      split at k1
      · exact ⟨_, rp_bool r1, q _ _ _ _ k1 e1 s1⟩
      · exact k1.elim⟩
/-! ### and, or, not, .. if .. else -/
def dAnd (t u : DTT) : DTT := fun ρ st k => t ρ st fun c st1 => match c with
  | true => u ρ st1 k
  | false => k false st1
def dOr (t u : DTT) : DTT := fun ρ st k => t ρ st fun c st1 => match c with
  | true => k true st1
  | false => u ρ st1 k
def dNot (t : DTT) : DTT := fun ρ st k => t ρ st fun c st1 => k (!c) st1
def dAndV (t u : DTE) : DTE := fun ρ st k => t ρ st fun c st1 => match c with
  | .d (.bool true) => u ρ st1 k
  | .d (.bool false) => k (.d (.bool false)) st1
  | _ => False
def dOrV (t u : DTE) : DTE := fun ρ st k => t ρ st fun c st1 => match c with
  | .d (.bool true) => k (.d (.bool true)) st1
  | .d (.bool false) => u ρ st1 k
  | _ => False
def dNotV (t : DTE) : DTE := fun ρ st k => t ρ st fun c st1 => match c with
  | .d (.bool b) => k (.d (.bool (!b))) st1
  | _ => False
def dIf (t : DTT) (u v : DTE) : DTE := fun ρ st k => t ρ st fun c st1 => match c with
  | true => u ρ st1 k
  | false => v ρ st1 k
variable {tA tB : DTT} {rest : List Expr}
theorem w_and1 (h : DT X a tA) : DW X (.BoolOp .And [a] pos) tA := pw_and1 h
theorem w_or1 (h : DT X a tA) : DW X (.BoolOp .Or [a] pos) tA := pw_or1 h
theorem w_and (ha : DT X a tA) (hb : DW X (.BoolOp .And (b :: rest) pos) tB) : DW X (.BoolOp .And (a :: b :: rest) pos) (dAnd tA tB) := pw_imp (pw_and ha hb) fun σ H Q ⟨fr, ρ, st, k, w, h1, q⟩ =>
  ⟨fr, ρ, st, _, w, h1, fun c st1 fr1 H1 k1 e1 s1 => by
    cases c with
    | true => exact iteT ⟨fr1, ρ, st1, k, w.on e1 s1, k1, q.at e1⟩
    | false => exact iteF (q _ _ _ _ k1 e1 s1)⟩
theorem w_or (ha : DT X a tA) (hb : DW X (.BoolOp .Or (b :: rest) pos) tB) : DW X (.BoolOp .Or (a :: b :: rest) pos) (dOr tA tB) := pw_imp (pw_or ha hb) fun σ H Q ⟨fr, ρ, st, k, w, h1, q⟩ =>
  ⟨fr, ρ, st, _, w, h1, fun c st1 fr1 H1 k1 e1 s1 => by
    cases c with
    | true => exact iteT (q _ _ _ _ k1 e1 s1)
    | false => exact iteF ⟨fr1, ρ, st1, k, w.on e1 s1, k1, q.at e1⟩⟩
theorem t_not (ha : DT X a tA) : DT X (.UnaryOp .Not a pos) (dNot tA) := pt_imp (pt_not ha) fun σ H Q ⟨fr, ρ, st, k, w, h1, q⟩ =>
  ⟨fr, ρ, st, _, w, h1, fun c st1 fr1 H1 k1 e1 s1 => q _ _ _ _ k1 e1 s1⟩
theorem d_one {op} {t : DTE} (h : DE X a t) : DE X (.BoolOp op [a] pos) t := pe_one h
theorem d_and (ha : DE X a ta) (hb : DE X (.BoolOp .And (b :: rest) pos) tb) : DE X (.BoolOp .And (a :: b :: rest) pos) (dAndV ta tb) := pe_imp (pe_and ha hb) fun σ H Q ⟨fr, ρ, st, k, w, h1, q⟩ =>
  ⟨fr, ρ, st, _, w, h1, fun c st1 fr1 H1 v k1 e1 s1 r1 => by
    split at k1
    · exact ⟨true, rp_bool r1, iteT ⟨fr1, ρ, st1, k, w.on e1 s1, k1, q.at e1⟩⟩
    · exact ⟨false, rp_bool r1, iteF (q _ _ _ _ _ k1 e1 s1 (.bl false))⟩
    · exact k1.elim⟩
theorem d_or (ha : DE X a ta) (hb : DE X (.BoolOp .Or (b :: rest) pos) tb) : DE X (.BoolOp .Or (a :: b :: rest) pos) (dOrV ta tb) := pe_imp (pe_or ha hb) fun σ H Q ⟨fr, ρ, st, k, w, h1, q⟩ =>
  ⟨fr, ρ, st, _, w, h1, fun c st1 fr1 H1 v k1 e1 s1 r1 => by
    split at k1
    · exact ⟨true, rp_bool r1, iteT (q _ _ _ _ _ k1 e1 s1 (.bl true))⟩
    · exact ⟨false, rp_bool r1, iteF ⟨fr1, ρ, st1, k, w.on e1 s1, k1, q.at e1⟩⟩
    · exact k1.elim⟩
theorem d_not (ha : DE X a ta) : DE X (.UnaryOp .Not a pos) (dNotV ta) := pe_imp (pe_not ha) fun σ H Q ⟨fr, ρ, st, k, w, h1, q⟩ =>
  ⟨fr, ρ, st, _, w, h1, fun c st1 fr1 H1 v k1 e1 s1 r1 => by
    split at k1
    · exact ⟨_, rp_bool r1, q _ _ _ _ _ k1 e1 s1 (.bl _)⟩
    · exact k1.elim⟩
theorem d_if (hc : DT X c tA) (ha : DE X a ta) (hb : DE X b tb) : DE X (.IfExp c a b pos) (dIf tA ta tb) := pe_imp (pe_ifExp hc ha hb) fun σ H Q ⟨fr, ρ, st, k, w, h1, q⟩ =>
  ⟨fr, ρ, st, _, w, h1, fun c st1 fr1 H1 k1 e1 s1 => by
    cases c with
    | true => exact iteT ⟨fr1, ρ, st1, k, w.on e1 s1, k1, q.at e1⟩
    | false => exact iteF ⟨fr1, ρ, st1, k, w.on e1 s1, k1, q.at e1⟩⟩
end
/-! ### arguments, displays -/
def dNil : DTA := fun _ st k => k [] st
def dCons (ta : DTE) (tr : DTA) : DTA := fun ρ st k => ta ρ st fun x st1 => tr ρ st1 fun xs st2 => k (x :: xs) st2
def allD : List Sl → Option (List PyData)
  | [] => some []
  | .d x :: r => match allD r with
    | some ds => some (x :: ds)
    | none => none
  | _ :: _ => none
theorem allD_eq : ∀ {xs : List Sl} {ds : List PyData}, allD xs = some ds → xs = ds.map Sl.d
  | [], ds, h => by
    cases h
    rfl
  | .d x :: r, ds, h => by
    unfold allD at h
    split at h
    · next es he =>
      cases h
      rw [List.map_cons, allD_eq he]
    · cases h
  | .o _ :: _, _, h => by cases h
  | .v _ :: _, _, h => by cases h
  | .r _ :: _, _, h => by cases h
  | .tn :: _, _, h => by cases h
  | .tc _ _ :: _, _, h => by cases h
theorem allD_map : ∀ ds : List PyData, allD (ds.map Sl.d) = some ds
  | [] => rfl
  | x :: r => by
    rw [List.map_cons]
    unfold allD
    rw [allD_map r]
def dTup (ta : DTA) : DTE := fun ρ st k => ta ρ st fun xs st1 => match allD xs with
  | some ds => ds.length ≤ sizeLine ∧ k (.d (.tuple ds)) st1
  | none => False
def dLst (ta : DTA) : DTE := fun ρ st k => ta ρ st fun xs st1 => xs.length ≤ sizeLine ∧ dNew xs st1 k
section
variable {X : Cx} {pos : Pos} {e : Expr} {es : List Expr} {te : DTE} {t : DTA}
theorem a_nil : DA X [] dNil := pa_imp pa_nil fun σ H Q ⟨fr, ρ, st, k, w, h, q⟩ => q [] st fr H [] h (Ext.refl _ _ _) w.sto .nil
theorem a_cons (ha : DE X e te) (hr : DA X es t) (hs : starEach (e :: es) X.env = (false, eval e X.env) :: starEach es X.env := by rfl) : DA X (e :: es) (dCons te t) := pa_imp (pa_cons ha hr hs) fun σ H Q ⟨fr, ρ, st, k, w, h, q⟩ =>
  ⟨fr, ρ, st, _, w, h, fun x st1 fr1 H1 v k1 e1 s1 r1 => ⟨fr1, ρ, st1, _, w.on e1 s1, k1, fun xs st2 fr2 H2 vs k2 e2 s2 r2 => q _ _ _ _ _ k2 (e1.trans e2) s2 (.cons (r1.ex s1.ow e2) r2)⟩⟩
theorem d_tup {x1} (h : DA X es t) : DE X (.Tuple es x1 pos) (dTup t) := pe_imp (pe_tup h) fun σ H Q ⟨fr, ρ, st, k, w, h, q⟩ =>
  ⟨fr, ρ, st, _, w, h, fun xs st1 fr1 H1 vs k1 e1 s1 r1 => by
    split at k1
    · next ds hd =>
      rw [allD_eq hd] at r1
      exact ⟨by rw [r1.toRp.length]; exact k1.1, fun p n => (q.at e1).tup s1 r1.toRp k1.2 n⟩
    · exact k1.elim⟩
theorem d_lst (h : DA X es t) : DE X (.List es pos) (dLst t) := pe_imp (pe_lst h) fun σ H Q ⟨fr, ρ, st, k, w, h, q⟩ =>
  ⟨fr, ρ, st, _, w, h, fun xs st1 fr1 H1 vs k1 e1 s1 r1 => ⟨by rw [r1.length]; exact k1.1, fun p n => (q.at e1).lst s1 r1 k1.2 n⟩⟩
end
end DL
namespace DL
open PySem PySem.Spec PyProof.Rows L2
/-! ### statements -/
def dNext : DTS := fun D ρ st => D.nx ρ st
def dBrk : DTS := fun D ρ st => D.bk ρ st
def dCnt : DTS := fun D ρ st => D.ct ρ st
def dSeq (t u : DTS) : DTS := fun D ρ st => t { D with nx := u D } ρ st
def dDrop (te : DTE) : DTS := fun D ρ st => te ρ st fun _ st1 => D.nx ρ st1
def dRet (te : DTE) : DTS := fun D ρ st => te ρ st D.rt
def dRetN : DTS := fun D _ st => D.rt (.d .none) st
def dIfS (c : DTT) (t u : DTS) : DTS := fun D ρ st => c ρ st fun b st1 => match b with
  | true => t D ρ st1
  | false => u D ρ st1
def dNever : DTS := fun _ _ _ => False
/-- the same, kept from unfolding: what stands behind an if, a loop -/
@[irreducible] def hold (t : DTS) : DTS := t
theorem hold_at {t : DTS} {D : DEnds} {ρ : Sls} {st : Store} : hold t D ρ st = t D ρ st := by unfold hold; rfl
section
variable {X : Cx} {s : Stmt} {rest a b : List Stmt} {t u : DTS} {e c : Expr} {te : DTE} {tc : DTT} {pos : Pos}
theorem ss_nil : DSs X [] dNext := pss_imp pss_nil fun D σ H ⟨fr, ρ, st, k, w, h, q⟩ => q.nx.now h w
theorem le_seq {K : PySem.W.Frag} {D : Ends} {σ : L2.St} {H : Hp} : LS K (dSeq t u) D σ H → tSeq (LS K t) (LS K u) D σ H := fun ⟨fr, ρ, st, k, w, h, q⟩ =>
  ⟨fr, ρ, st, { k with nx := u k }, w, h, fun ρ1 st1 fr1 H1 σ1 k1 e1 w1 => ⟨fr1, ρ1, st1, k, w1, k1, q.at e1⟩, q.rt, q.bk, q.ct⟩
theorem ss_cons (h1 : DS X s t) (h2 : DSs X rest u) : DSs X (s :: rest) (dSeq t u) := pss_imp (pss_cons h1 h2) fun _ _ _ => le_seq
theorem ss_one (h : DS X s t) : DSs X [s] t := pss_one h
theorem s_pass : DS X (.Pass pos) dNext := ps_imp ps_pass fun D σ H ⟨fr, ρ, st, k, w, h, q⟩ => q.nx.now h w
theorem s_brk : DS X (.Break pos) dBrk := ps_imp ps_break fun D σ H ⟨fr, ρ, st, k, w, h, q⟩ => q.bk.now h w
theorem s_cnt : DS X (.Continue pos) dCnt := ps_imp ps_continue fun D σ H ⟨fr, ρ, st, k, w, h, q⟩ => q.ct.now h w
theorem s_doc {x j p} : DS X (.Expr (.Constant (.str x) j p) pos) dNext := ps_imp ps_doc fun D σ H ⟨fr, ρ, st, k, w, h, q⟩ => q.nx.now h w
theorem s_drop (he : DE X e te) (hs : swapsWith e none pos.line X.env = pure false := by rfl) : DS X (.Expr e pos) (dDrop te) := ps_imp (ps_expr he hs) fun D σ H ⟨fr, ρ, st, k, w, h, q⟩ =>
  ⟨fr, ρ, st, _, w, h, fun x st1 fr1 H1 v k1 e1 s1 r1 => q.nx _ _ _ _ _ k1 e1 (w.on e1 s1)⟩
theorem s_ret (he : DE X e te) : DS X (.Return (some e) pos) (dRet te) := ps_imp (ps_ret he) fun D σ H ⟨fr, ρ, st, k, w, h, q⟩ => ⟨fr, ρ, st, _, w, h, q.rt⟩
theorem s_retN : DS X (.Return none pos) dRetN := ps_imp ps_retN fun D σ H ⟨fr, ρ, st, k, w, h, q⟩ => q.rt.now h w.sto .non
theorem s_if (hc : DT X c tc) (ha : DSs X a t) (hb : DSs X b u) : DS X (.If c a b pos) (dIfS tc t u) := ps_imp (ps_if hc ha hb) fun D σ H ⟨fr, ρ, st, k, w, h, q⟩ =>
  ⟨fr, ρ, st, _, w, h, fun d st1 fr1 H1 k1 e1 s1 => by
    cases d with
    | true => exact iteT ⟨fr1, ρ, st1, k, w.on e1 s1, k1, q.at e1⟩
    | false => exact iteF ⟨fr1, ρ, st1, k, w.on e1 s1, k1, q.at e1⟩⟩
theorem ss_hold (h : DSs X rest u) : DSs X rest (hold u) := pss_imp h fun D σ H ⟨fr, ρ, st, k, w, h, q⟩ => ⟨fr, ρ, st, k, w, by rw [hold_at] at h; exact h, q⟩
theorem s_never : DS X s dNever := ps_imp ps_never fun D σ H ⟨fr, ρ, st, k, w, h, q⟩ => h.elim
theorem ss_never : DSs X rest dNever := pss_imp pss_never fun D σ H ⟨fr, ρ, st, k, w, h, q⟩ => h.elim
end
/-! ### targets -/
abbrev DTG := Sl → Sls → Store → (Sls → Store → Prop) → Prop
abbrev DTGs := List Sl → Sls → Store → (Sls → Store → Prop) → Prop
def LG (K : PySem.W.Frag) (vs : List Nat) (t : DTG) : TG := fun v σ H Q => ∃ fr ρ st x k, Wd K fr H σ ρ st ∧ SlR K fr H v x ∧ t x ρ st k ∧
  ∀ ρ' st' fr' H' σ', k ρ' st' → Ext fr H st fr' H' st' → Wd K fr' H' σ' ρ' st' → wipe σ' vs = wipe σ vs → Q σ' H'
def LGs (K : PySem.W.Frag) (vs : List Nat) (t : DTGs) : TGs := fun v σ H Q => ∃ fr ρ st x k, Wd K fr H σ ρ st ∧ SlsR K fr H v x ∧ t x ρ st k ∧
  ∀ ρ' st' fr' H' σ', k ρ' st' → Ext fr H st fr' H' st' → Wd K fr' H' σ' ρ' st' → wipe σ' vs = wipe σ vs → Q σ' H'
abbrev DG (X : Cx) (vs : List Nat) (e : Expr) (t : DTG) : Prop := PG X e (LG X.K vs t)
abbrev DGs (X : Cx) (vs : List Nat) (e : List Expr) (t : DTGs) : Prop := PGs X e (LGs X.K vs t)
theorem pg_imp {X : Cx} {e : Expr} {t t' : TG} (h : PG X e t) (i : ∀ v σ H Q, t' v σ H Q → t v σ H Q) : PG X e t' := ⟨fun pins s σ H v u Q I r q => h.run pins s σ H v u Q I r (i _ _ _ _ q)⟩
theorem pgs_imp {X : Cx} {e : List Expr} {t t' : TGs} (h : PGs X e t) (i : ∀ v σ H Q, t' v σ H Q → t v σ H Q) : PGs X e t' := ⟨fun pins s σ H v u Q I r q => h.run pins s σ H v u Q I r (i _ _ _ _ q)⟩
def gN (i : Nat) : DTG := fun x ρ st k => k (ρ.set i (some x)) st
def gNl : DTGs := fun xs ρ st k => match xs with
  | [] => k ρ st
  | _ => False
def gCn (t : DTG) (u : DTGs) : DTGs := fun xs ρ st k => match xs with
  | x :: r => t x ρ st fun ρ1 st1 => u r ρ1 st1 k
  | [] => False
def gTp (n : Nat) (t : DTGs) : DTG := fun x ρ st k => match x with
  | .d (.tuple ds) => ds.length = n ∧ t (ds.map Sl.d) ρ st k
  | .tc a b => (itT (.tc a b)).length = n ∧ t (itT (.tc a b)) ρ st k
  | _ => False
theorem wipe_mem {v : Option V} {i : Nat} : ∀ {vs : List Nat} {σ : L2.St}, i ∈ vs → wipe (σ.set i v) vs = wipe σ vs
  | [], _, h => by cases h
  | j :: r, σ, h => by
    unfold wipe
    by_cases e : i ∈ r
    · rw [wipe_mem e]
    · have hj : i = j := (List.mem_cons.mp h).elim id fun z => absurd z e
      subst hj
      apply List.ext_getElem?
      intro m
      by_cases hm : i = m
      · subst hm
        have hl : (wipe (σ.set i v) r).length = (wipe σ r).length := by rw [wipe_length, wipe_length, List.length_set]
        by_cases hb : i < (wipe σ r).length
        · rw [List.getElem?_set_self (by rw [hl]; exact hb), List.getElem?_set_self hb]
        · rw [List.getElem?_eq_none (by rw [List.length_set, hl]; omega), List.getElem?_eq_none (by rw [List.length_set]; omega)]
      · rw [List.getElem?_set_ne hm, List.getElem?_set_ne hm]
        by_cases hr : m ∈ r
        · have hn : ∀ (τ : L2.St), (wipe τ r)[m]? = if m < τ.length then some none else none := by
            intro τ
            clear hm e h
            induction r with
            | nil => cases hr
            | cons a r ih =>
              unfold wipe
              by_cases ha : a = m
              · subst ha
                by_cases hb : a < τ.length
                · rw [List.getElem?_set_self (by rw [wipe_length]; exact hb), if_pos hb]
                · rw [List.getElem?_eq_none (by rw [List.length_set, wipe_length]; omega), if_neg hb]
              · rw [List.getElem?_set_ne ha]
                exact ih ((List.mem_cons.mp hr).elim (fun z => absurd z.symm ha) id)
          rw [hn, hn, List.length_set]
        · rw [wipe_out hr, wipe_out hr, List.getElem?_set_ne hm]
section
variable {X : Cx} {pos : Pos} {e : Expr} {es : List Expr} {t : DTG} {u : DTGs} {vs : List Nat}
theorem g_name (i : Nat) {x : Str} (hN : X.N.Nodup) (hi : X.N[i]? = some x := by rfl) (hx : Loc X.env.scope x := by first | exact Or.inl rfl | exact Or.inr rfl) (hm : i ∈ vs := by decide) (hf : X.fn x = true ∨ X.env.scope.names.lookup x = some .local := by first | exact .inl rfl | exact .inr rfl) :
    DG X vs (.Name x pos) (gN i) := pg_imp (pg_name hN hi hx hf) fun v σ H Q ⟨fr, ρ, st, x, k, w, r, h, q⟩ => q _ _ _ _ _ h (Ext.refl _ _ _) (w.put r i) (wipe_mem hm)
theorem g_nil : DGs X vs [] gNl := pgs_imp pgs_nil fun v σ H Q ⟨fr, ρ, st, x, k, w, r, h, q⟩ => by
  unfold gNl at h
  split at h
  · cases r
    exact ⟨rfl, q _ _ _ _ _ h (Ext.refl _ _ _) w rfl⟩
  · exact h.elim
theorem g_cons (h1 : DG X vs e t) (h2 : DGs X vs es u) (hs : (assignEach (e :: es) X.env).map (·.2) = assign e X.env :: (assignEach es X.env).map (·.2) := by rfl) : DGs X vs (e :: es) (gCn t u) :=
  pgs_imp (pgs_cons h1 h2 hs) fun v σ H Q ⟨fr, ρ, st, x, k, w, r, h, q⟩ => by
    unfold gCn at h
    split at h
    · cases r with
      | cons r rr =>
        refine ⟨_, _, rfl, fr, ρ, st, _, _, w, r, h, fun ρ1 st1 fr1 H1 σ1 k1 e1 w1 c1 => ?_⟩
        exact ⟨fr1, ρ1, st1, _, k, w1, rr.ex w.ow e1, k1, fun ρ2 st2 fr2 H2 σ2 k2 e2 w2 c2 => q _ _ _ _ _ k2 (e1.trans e2) w2 (c2.trans c1)⟩
    · exact h.elim
theorem g_tup {k : Nat} {n : Nat} (hc : X.calm = true) (h : DGs X vs es u) (hn : (assignEach es X.env).length = n := by rfl) (hst : (assignEach es X.env).findIdx? (·.1) = none := by rfl) : DG X vs (.Tuple es k pos) (gTp n u) :=
  pg_imp (pg_tup hc h hn hst) fun v σ H Q ⟨fr, ρ, st, x, k, w, r, h, q⟩ => by
    unfold gTp at h
    split at h
    · cases r with
      | tup hs hr => exact ⟨_, _, rfl, hs, by rw [hr.length]; exact h.1, fr, ρ, st, _, k, w, SlsR.ofRp hr, h.2, q⟩
    · obtain ⟨t, u, us, rfl, h1, h2, h3⟩ := r
      have hr : SlsR X.K fr H (u :: us) (itT (.tc _ _)) := .cons h2 (itT_at h3)
      exact ⟨_, _, rfl, h1, by rw [hr.length]; exact h.1, fr, ρ, st, _, k, w, hr, h.2, q⟩
    · exact h.elim
end
/-- o[i] = e of an own list -/
def gSb (to ti : DTE) : DTG := fun x ρ st k => to ρ st fun o st1 => ti ρ st1 fun i st2 => match o, i with
  | .o p, .d (.int i) => (match st2 p with
    | some (.l xs) => (match ixN xs.length i with
      | some j => k ρ (sset st2 p (xs.set j x))
      | none => False)
    | _ => False)
  | _, _ => False
theorem g_sub {X : Cx} {pos : Pos} {o i : Expr} {to ti : DTE} {vs : List Nat} (ho : DE X o to) (hi : DE X i ti)
    (ha : ∀ v, assign (.Subscript o i pos) X.env v = (do
      let ov ← holding [v] (eval o X.env)
      let iv ← holding [v, ov] (eval i X.env)
      standAt pos
      holding [v, ov, iv] (setItem ov iv v)
      release [v, ov, iv] []) := by intro _; rfl) : DG X vs (.Subscript o i pos) (gSb to ti) := pg_imp (pg_sub ho hi set_list ha) fun v σ H Q ⟨fr, ρ, st, x, k, w, r, h, q⟩ =>
  ⟨fr, ρ, st, _, w, h, fun a st1 fr1 H1 u k1 e1 s1 r1 => ⟨fr1, ρ, st1, _, w.on e1 s1, k1, fun b st2 fr2 H2 y k2 e2 s2 r2 => by
    split at k2
    · next p i =>
      split at k2
      · next xs hx =>
        split at k2
        · next j hj =>
          obtain ⟨_, ws, hw, hr⟩ := s2.own p _ hx
          have hv : SlR X.K fr2 H2 v x := r.ex w.ow (e1.trans e2)
          refine ⟨p, ws, i, j, r1, rp_int r2, hw, by rw [hr.length]; exact hj, ?_⟩
          have e3 : Ext fr2 H2 st2 fr2 (upd H2 p (.lst (ws.set j v))) (sset st2 p (xs.set j x)) := ext_set hx s2
          exact q _ _ _ _ _ k2 ((e1.trans e2).trans e3) (w.on ((e1.trans e2).trans e3) (str_set hx s2 (SlsR.put hv j hr))) rfl
        · exact k2.elim
      · exact k2.elim
    · exact k2.elim⟩⟩
def dAsg (te : DTE) (g : DTG) : DTS := fun D ρ st => te ρ st fun x st1 => g x ρ st1 D.nx
theorem le_asg {K : PySem.W.Frag} {te : DTE} {g : DTG} {vs : List Nat} {D : Ends} {σ : L2.St} {H : Hp} : LS K (dAsg te g) D σ H → tAsg (LE K te) (LG K vs g) D σ H := fun ⟨fr, ρ, st, k, w, h, q⟩ =>
  ⟨fr, ρ, st, _, w, h, fun x st1 fr1 H1 v k1 e1 s1 r1 => ⟨fr1, ρ, st1, x, _, w.on e1 s1, r1, k1, fun ρ2 st2 fr2 H2 σ2 k2 e2 w2 _ => q.nx _ _ _ _ _ k2 (e1.trans e2) w2⟩⟩
section
variable {X : Cx} {pos pos' : Pos} {e tg : Expr} {te : DTE} {g : DTG} {vs : List Nat}
theorem s_asg (he : DE X e te) (hg : DG X vs tg g) (hs : swapsWithSole [tg] e pos.line X.env = pure false := by rfl) (hw : swappedStores [tg] e X.env = pure none := by rfl)
    (h1 : (assignEach [tg] X.env).map (·.2) = [assign tg X.env] := by rfl) : DS X (.Assign [tg] e pos) (dAsg te g) := ps_imp (ps_asg he hg hs hw h1) fun _ _ _ => le_asg
theorem s_set (i : Nat) {x : Str} (hN : X.N.Nodup) (he : DE X e te) (hi : X.N[i]? = some x := by rfl) (hx : Loc X.env.scope x := by first | exact Or.inl rfl | exact Or.inr rfl) (hs : swapsWith e (some (.Name x pos')) pos.line X.env = pure false := by rfl)
    (hf : X.fn x = true ∨ X.env.scope.names.lookup x = some .local := by first | exact .inl rfl | exact .inr rfl) : DS X (.Assign [.Name x pos'] e pos) (dAsg te (gN i)) := ps_imp (ps_set hN hi hx he hs hf) fun D σ H ⟨fr, ρ, st, k, w, h, q⟩ =>
  ⟨fr, ρ, st, _, w, h, fun x st1 fr1 H1 v k1 e1 s1 r1 => q.nx _ _ _ _ _ k1 e1 ((w.on e1 s1).put r1 i)⟩
end
/-- a, b = x, y with local names -/
def dPar (i j : Nat) (ta : DTA) : DTS := fun D ρ st => ta ρ st fun xs st1 => match xs with
  | [x, y] => D.nx ((ρ.set i (some x)).set j (some y)) st1
  | _ => False
theorem le_par {K : PySem.W.Frag} {i j : Nat} {ta : DTA} {D : Ends} {σ : L2.St} {H : Hp} : LS K (dPar i j ta) D σ H → tPar i j (LA K ta) D σ H := fun ⟨fr, ρ, st, k, w, h, q⟩ =>
  ⟨fr, ρ, st, _, w, h, fun xs st1 fr1 H1 v k1 e1 s1 r1 => by
    split at k1
    · cases r1 with
      | cons a r =>
        cases r with
        | cons b r =>
          cases r
          exact ⟨_, _, rfl, q.nx _ _ _ _ _ k1 e1 (((w.on e1 s1).put a i).put b j)⟩
    · exact k1.elim⟩
/-! ### while -/
@[irreducible] def WhGo (c : DTT) (tb : DTS) (D : DEnds) (ρ : Sls) (st : Store) : Prop := ∃ I : Nat → Sls → Store → Prop, (∃ m, I m ρ st) ∧ ∀ m ρ st, I m ρ st → c ρ st fun b st1 => match b with
  | true => tb { D with nx := fun ρ' st' => ∃ m', m' < m ∧ I m' ρ' st', ct := fun ρ' st' => ∃ m', m' < m ∧ I m' ρ' st', bk := D.nx } ρ st1
  | false => D.nx ρ st1
theorem WhGo.out {c : DTT} {tb : DTS} {D : DEnds} {ρ : Sls} {st : Store} (h : WhGo c tb D ρ st) : ∃ I : Nat → Sls → Store → Prop, (∃ m, I m ρ st) ∧ ∀ m ρ st, I m ρ st → c ρ st fun b st1 => match b with
  | true => tb { D with nx := fun ρ' st' => ∃ m', m' < m ∧ I m' ρ' st', ct := fun ρ' st' => ∃ m', m' < m ∧ I m' ρ' st', bk := D.nx } ρ st1
  | false => D.nx ρ st1 := by
  unfold WhGo at h
  exact h
theorem WhGo.inv {c : DTT} {tb : DTS} {D : DEnds} {ρ : Sls} {st : Store} (I : Nat → Sls → Store → Prop) (m : Nat) (h0 : I m ρ st) (hs : ∀ m ρ st, I m ρ st → c ρ st fun b st1 => match b with
  | true => tb { D with nx := fun ρ' st' => ∃ m', m' < m ∧ I m' ρ' st', ct := fun ρ' st' => ∃ m', m' < m ∧ I m' ρ' st', bk := D.nx } ρ st1
  | false => D.nx ρ st1) : WhGo c tb D ρ st := by
  unfold WhGo
  exact ⟨I, ⟨m, h0⟩, hs⟩
def dWhile (c : DTT) (tb : DTS) : DTS := fun D ρ st => WhGo c tb D ρ st
theorem s_while {X : Cx} {c : Expr} {body : List Stmt} {tc : DTT} {tb : DTS} {pos : Pos} (hp : PassesOwn (model X.prog X.w) X.A X.env X.xe) (hc : DT X c tc) (hb : DSs X body tb) : DS X (.While c body [] pos) (dWhile tc tb) :=
  ps_imp (ps_while hp hc hb) fun D σ H ⟨fr, ρ, st, k, w, hw, q⟩ => by
    obtain ⟨I, ⟨m0, h0⟩, hI⟩ := WhGo.out hw
    refine ⟨fun m σ' H' => ∃ fr' ρ' st', Ext fr H st fr' H' st' ∧ Wd X.K fr' H' σ' ρ' st' ∧ I m ρ' st', ⟨m0, fr, ρ, st, Ext.refl _ _ _, w, h0⟩, fun m σ' H' ⟨fr1, ρ1, st1, e1, w1, i1⟩ => ?_⟩
    refine ⟨fr1, ρ1, st1, _, w1, hI m ρ1 st1 i1, fun b st2 fr2 H2 k2 e2 s2 => ?_⟩
    cases b with
    | true =>
      refine iteT ⟨fun σ3 H3 => ∃ m', m' < m ∧ ∃ fr' ρ' st', Ext fr H st fr' H3 st' ∧ Wd X.K fr' H3 σ3 ρ' st' ∧ I m' ρ' st', fun σ3 H3 ⟨m', hm, z⟩ => ⟨m', hm, z⟩, ?_⟩
      refine ⟨fr2, ρ1, st2, _, w1.on e2 s2, k2, ?_, q.rt.at (e1.trans e2), q.nx.at (e1.trans e2), ?_⟩
      · exact fun ρ3 st3 fr3 H3 σ3 ⟨m', hm, i3⟩ e3 w3 => ⟨m', hm, fr3, ρ3, st3, (e1.trans e2).trans e3, w3, i3⟩
      · exact fun ρ3 st3 fr3 H3 σ3 ⟨m', hm, i3⟩ e3 w3 => ⟨m', hm, fr3, ρ3, st3, (e1.trans e2).trans e3, w3, i3⟩
    | false => exact iteF (q.nx _ _ _ _ _ k2 (e1.trans e2) (w1.on e2 s2))
/-! ### for -/
/-- an iterator J whose turns are the items xs, while «stay» -/
def ItOk (K : PySem.W.Frag) (fr0 : Fz) (H0 : Hp) (st0 : Store) (J : It) (xs : List Sl) (stay : Store → Prop) : Prop := ∀ i fr H st, Ext fr0 H0 st0 fr H st → StR K fr H st → stay st →
  (∀ x, xs[i]? = some x → J.go i H ∧ ∀ v H', J.yld i H v H' → ∃ fr', Ext fr H st fr' H' st ∧ StR K fr' H' st ∧ SlR K fr' H' v x) ∧ (xs.length ≤ i → J.stop i H)
abbrev KI := List Sl → (Store → Prop) → Store → Prop
abbrev DTI := Sls → Store → KI → Prop
def LI (K : PySem.W.Frag) (t : DTI) : TI := fun σ H R => ∃ fr ρ st k, Wd K fr H σ ρ st ∧ t ρ st k ∧ ∀ xs stay st' fr' H' J, k xs stay st' → Ext fr H st fr' H' st' → StR K fr' H' st' → ItOk K fr' H' st' J xs stay → R J H'
abbrev DI (X : Cx) (tg e : Expr) (t : DTI) : Prop := PI X tg e (LI X.K t)
theorem pi_imp {X : Cx} {tg e : Expr} {t t' : TI} (h : PI X tg e t) (i : ∀ σ H Q, t' σ H Q → t σ H Q) : PI X tg e t' := ⟨fun pins s σ H R I q => h.run pins s σ H R I (i _ _ _ q)⟩
/-- a for over the items xs, by an invariant of its own -/
@[irreducible] def ForGo (g : DTG) (tb : DTS) (D : DEnds) (xs : List Sl) (stay : Store → Prop) (ρ : Sls) (st : Store) : Prop := ∃ I : Nat → Sls → Store → Prop, I 0 ρ st ∧
  (∀ i x ρ' st', xs[i]? = some x → I i ρ' st' → stay st' ∧ g x ρ' st' fun ρ1 st2 => tb { D with nx := I (i + 1), ct := I (i + 1), bk := D.nx } ρ1 st2) ∧ ∀ ρ' st', I xs.length ρ' st' → stay st' ∧ D.nx ρ' st'
theorem ForGo.out {g : DTG} {tb : DTS} {D : DEnds} {xs : List Sl} {stay : Store → Prop} {ρ : Sls} {st : Store} (h : ForGo g tb D xs stay ρ st) : ∃ I : Nat → Sls → Store → Prop, I 0 ρ st ∧
  (∀ i x ρ' st', xs[i]? = some x → I i ρ' st' → stay st' ∧ g x ρ' st' fun ρ1 st2 => tb { D with nx := I (i + 1), ct := I (i + 1), bk := D.nx } ρ1 st2) ∧ ∀ ρ' st', I xs.length ρ' st' → stay st' ∧ D.nx ρ' st' := by
  unfold ForGo at h
  exact h
theorem ForGo.inv {g : DTG} {tb : DTS} {D : DEnds} {xs : List Sl} {stay : Store → Prop} {ρ : Sls} {st : Store} (I : Nat → Sls → Store → Prop) (h0 : I 0 ρ st)
    (hs : ∀ i x ρ' st', xs[i]? = some x → I i ρ' st' → stay st' ∧ g x ρ' st' fun ρ1 st2 => tb { D with nx := I (i + 1), ct := I (i + 1), bk := D.nx } ρ1 st2) (hd : ∀ ρ' st', I xs.length ρ' st' → stay st' ∧ D.nx ρ' st') : ForGo g tb D xs stay ρ st := by
  unfold ForGo
  exact ⟨I, h0, hs, hd⟩
/-- by what is done: the items are e of the things L -/
theorem ForGo.done {α : Type} {g : DTG} {tb : DTS} {D : DEnds} {xs : List Sl} {stay : Store → Prop} {ρ : Sls} {st : Store} (L : List α) (e : α → Sl) (hL : xs = L.map e) (I : List α → Sls → Store → Prop) (h0 : I [] ρ st)
    (hs : ∀ d a r ρ' st', L = d ++ a :: r → I d ρ' st' → stay st' ∧ g (e a) ρ' st' fun ρ1 st2 => tb { D with nx := I (d ++ [a]), ct := I (d ++ [a]), bk := D.nx } ρ1 st2) (hd : ∀ ρ' st', I L ρ' st' → stay st' ∧ D.nx ρ' st') : ForGo g tb D xs stay ρ st := by
  subst hL
  refine ForGo.inv (fun i ρ s => I (L.take i) ρ s) h0 (fun i x ρ' st' hx hi => ?_) fun ρ' st' hi => ?_
  · rw [List.getElem?_map] at hx
    cases ha : L[i]? with
    | none =>
      rw [ha] at hx
      cases hx
    | some a =>
      rw [ha] at hx
      cases hx
      have hl := (List.getElem?_eq_some_iff.mp ha).1
      have e1 : L = L.take i ++ a :: L.drop (i + 1) := by
        have q := (List.take_append_drop i L).symm
        rw [List.drop_eq_getElem_cons hl] at q
        rw [(List.getElem?_eq_some_iff.mp ha).2] at q
        exact q
      have e2 : L.take (i + 1) = L.take i ++ [a] := by
        rw [List.take_add_one, ha]
        rfl
      rw [e2]
      exact hs _ a _ ρ' st' e1 hi
  · rw [List.length_map, List.take_length] at hi
    exact hd ρ' st' hi
/-- item by item -/
theorem ForGo.nil {g : DTG} {tb : DTS} {D : DEnds} {stay : Store → Prop} {ρ : Sls} {st : Store} (h : stay st ∧ D.nx ρ st) : ForGo g tb D [] stay ρ st :=
  ForGo.inv (fun _ ρ' s => ρ' = ρ ∧ s = st) ⟨rfl, rfl⟩ (fun i x ρ' s hx => by simp at hx) fun ρ' s ⟨a, b⟩ => by
    subst a b
    exact h
/-- item by item, by a reading of the items to come -/
def forD (g : DTG) (tb : DTS) (D : DEnds) (stay : Store → Prop) : List Sl → Sls → Store → Prop
  | [], ρ, st => stay st ∧ D.nx ρ st
  | x :: r, ρ, st => stay st ∧ g x ρ st fun ρ1 st2 => tb { D with nx := forD g tb D stay r, ct := forD g tb D stay r, bk := D.nx } ρ1 st2
theorem ForGo.unroll {g : DTG} {tb : DTS} {D : DEnds} {xs : List Sl} {stay : Store → Prop} {ρ : Sls} {st : Store} (h : forD g tb D stay xs ρ st) : ForGo g tb D xs stay ρ st := by
  refine ForGo.inv (fun i ρ s => forD g tb D stay (xs.drop i) ρ s) h (fun i x ρ' st' hx hi => ?_) fun ρ' st' hi => ?_
  · have hl := (List.getElem?_eq_some_iff.mp hx).1
    rw [List.drop_eq_getElem_cons hl, (List.getElem?_eq_some_iff.mp hx).2] at hi
    exact hi
  · rw [List.drop_length] at hi
    exact hi
def dFor (wi : DTI) (g : DTG) (tb : DTS) : DTS := fun D ρ st => wi ρ st fun xs stay st1 => ForGo g tb D xs stay ρ st1
theorem s_for {X : Cx} {tg iter : Expr} {body : List Stmt} {wi : DTI} {g : DTG} {tb : DTS} {vs : List Nat} {pos : Pos} (hp : PassesOwn (model X.prog X.w) X.A X.env X.xe) (hc : X.calm = true) (hi : DI X tg iter wi) (hg : DG X vs tg g) (hb : DSs X body tb)
    (hs : ∀ x, foldedSetIterable iter X.env x = pure x := by intro _; rfl) : DS X (.For tg iter body [] pos) (dFor wi g tb) :=
  ps_imp (ps_for hp hc hi hg hb hs) fun D σ H ⟨fr, ρ, st, k, w, h, q⟩ => by
    refine ⟨fr, ρ, st, _, w, h, fun xs stay st1 fr1 H1 J k1 e1 s1 ok => ?_⟩
    obtain ⟨I, i0, turn, done⟩ := k1.out
    have w1 := w.on e1 s1
    refine ⟨fun i m σ' H' => i + m = xs.length ∧ ∃ fr' ρ' st', Ext fr1 H1 st1 fr' H' st' ∧ Wd X.K fr' H' σ' ρ' st' ∧ I i ρ' st', ⟨xs.length, Nat.zero_add _, fr1, ρ, st1, Ext.refl _ _ _, w1, i0⟩, fun i m σ2 H2 hw => ?_⟩
    obtain ⟨hm, fr2, ρ2, st2, e2, w2, i2⟩ := hw
    by_cases hi : i < xs.length
    · have hx : xs[i]? = some xs[i] := List.getElem?_eq_getElem hi
      obtain ⟨hst, hg2⟩ := turn i _ ρ2 st2 hx i2
      obtain ⟨go, hy⟩ := (ok i fr2 H2 st2 e2 w2.sto hst).1 _ hx
      refine .inr ⟨go, fun σ3 H3 => ∃ fr' ρ' st', Ext fr1 H1 st1 fr' H3 st' ∧ Wd X.K fr' H3 σ3 ρ' st' ∧ I (i + 1) ρ' st', fun σ3 H3 z => ⟨m - 1, by omega, by omega, z⟩, fun v H3 y3 => ?_⟩
      obtain ⟨fr3, e3, s3, r3⟩ := hy v H3 y3
      refine ⟨fr3, ρ2, st2, _, _, w2.on e3 s3, r3, hg2, fun ρ4 st4 fr4 H4 σ4 k4 e4 w4 _ => ?_⟩
      have e14 : Ext fr1 H1 st1 fr4 H4 st4 := (e2.trans e3).trans e4
      refine ⟨fr4, ρ4, st4, _, w4, k4, ?_, q.rt.at (e1.trans e14), q.nx.at (e1.trans e14), ?_⟩
      · exact fun ρ5 st5 fr5 H5 σ5 k5 e5 w5 => ⟨fr5, ρ5, st5, e14.trans e5, w5, k5⟩
      · exact fun ρ5 st5 fr5 H5 σ5 k5 e5 w5 => ⟨fr5, ρ5, st5, e14.trans e5, w5, k5⟩
    · have ei : i = xs.length := by omega
      subst ei
      obtain ⟨hst, hd⟩ := done ρ2 st2 i2
      exact .inl ⟨(ok _ fr2 H2 st2 e2 w2.sto hst).2 (Nat.le_refl _), q.nx _ _ _ _ _ hd (e1.trans e2) w2⟩
/-! ### comprehensions -/
def dwipe (ρ : Sls) : List Nat → Sls
  | [] => ρ
  | v :: vs => (dwipe ρ vs).set v none
theorem wipe_twice (σ : L2.St) (vs : List Nat) : wipe (wipe σ vs) vs = wipe σ vs := by
  have h : ∀ ws : List Nat, (∀ v ∈ ws, v ∈ vs) → wipe (wipe σ ws) vs = wipe σ vs := by
    intro ws
    induction ws with
    | nil => intro _; rfl
    | cons a r ih =>
      intro hs
      show wipe ((wipe σ r).set a none) vs = wipe σ vs
      rw [wipe_mem (hs a List.mem_cons_self)]
      exact ih fun v hv => hs v (List.mem_cons_of_mem _ hv)
  exact h vs fun _ z => z
theorem Wd.wipe {K : PySem.W.Frag} {fr : Fz} {H : Hp} {σ : L2.St} {ρ : Sls} {st : Store} (w : Wd K fr H σ ρ st) : ∀ vs : List Nat, Wd K fr H (wipe σ vs) (dwipe ρ vs) st
  | [] => w
  | v :: vs => by
    have ih := w.wipe vs
    refine ⟨by show ((dwipe ρ vs).set v none).length = ((L2.wipe σ vs).set v none).length; rw [List.length_set, List.length_set, ih.len], fun i x h => ?_, w.sto⟩
    have h' : ((dwipe ρ vs).set v none)[i]? = some (some x) := h
    by_cases e : v = i
    · subst e
      by_cases hl : v < (dwipe ρ vs).length
      · rw [List.getElem?_set_self hl] at h'
        cases h'
      · rw [List.getElem?_eq_none (by rw [List.length_set]; omega)] at h'
        cases h'
    · rw [List.getElem?_set_ne e] at h'
      obtain ⟨u, hu, r⟩ := ih.env i x h'
      exact ⟨u, by show ((L2.wipe σ vs).set v none)[i]? = some (some u); rw [List.getElem?_set_ne e]; exact hu, r⟩
def dYes : DTT := fun _ st k => k true st
abbrev DTs (X : Cx) (e : List Expr) (t : DTT) : Prop := PTs X e (LT X.K t)
theorem ts_nil {X : Cx} : DTs X [] dYes := ⟨fun pins s σ H Q I ⟨fr, ρ, st, k, w, h, q⟩ => pts_nil.run pins s σ H Q I (q _ _ _ _ h (Ext.refl _ _ _) w.sto)⟩
theorem ts_one {X : Cx} {c : Expr} {t : DTT} (h : DT X c t) : DTs X [c] t := pts_one h
/-- two lists, item by item -/
inductive All2 {α β : Type} (Q : α → β → Prop) : List α → List β → Prop
  | nil : All2 Q [] []
  | cons {a : α} {b : β} {l : List α} {m : List β} : Q a b → All2 Q l m → All2 Q (a :: l) (b :: m)
theorem All2.length {α β : Type} {Q : α → β → Prop} {l : List α} {m : List β} (h : All2 Q l m) : l.length = m.length := by
  induction h with
  | nil => rfl
  | cons _ _ ih => rw [List.length_cons, List.length_cons, ih]
theorem All2.imp {α β : Type} {Q Q' : α → β → Prop} (i : ∀ a b, Q a b → Q' a b) {l : List α} {m : List β} (h : All2 Q l m) : All2 Q' l m := by
  induction h with
  | nil => exact .nil
  | cons a _ ih => exact .cons (i _ _ a) ih
theorem All2.get {α β : Type} {Q : α → β → Prop} {l : List α} {m : List β} (h : All2 Q l m) : ∀ {i : Nat} {a : α}, l[i]? = some a → ∃ b, m[i]? = some b ∧ Q a b := by
  induction h with
  | nil => intro i a h; simp at h
  | cons q _ ih =>
    intro i a h
    cases i with
    | zero =>
      simp at h
      subst h
      exact ⟨_, rfl, q⟩
    | succ i =>
      obtain ⟨b, h1, h2⟩ := ih (i := i) (a := a) (by simpa using h)
      exact ⟨b, by simpa using h1, h2⟩
theorem All2.right {α β : Type} {P : β → Prop} {l : List α} {m : List β} (h : All2 (fun _ b => P b) l m) : ∀ b ∈ m, P b := by
  induction h with
  | nil => intro b hb; cases hb
  | cons q _ ih =>
    intro b hb
    rcases List.mem_cons.mp hb with rfl | hb
    · exact q
    · exact ih b hb
theorem All2.snoc {α β : Type} {Q : α → β → Prop} {l : List α} {m : List β} (h : All2 Q l m) {a : α} {b : β} (q : Q a b) : All2 Q (l ++ [a]) (m ++ [b]) := by
  induction h with
  | nil => exact .cons q .nil
  | cons h _ ih => exact .cons h ih
/-- what is made is e of some things -/
theorem All2.of {α β γ : Type} {Q : α → β → Prop} {e : γ → β} {R : α → γ → Prop} {l : List α} {m : List β} (h : All2 Q l m) (i : ∀ a b, Q a b → ∃ c, b = e c ∧ R a c) : ∃ cs, m = cs.map e ∧ All2 R l cs := by
  induction h with
  | nil => exact ⟨[], rfl, .nil⟩
  | cons q _ ih =>
    obtain ⟨c, rfl, hr⟩ := i _ _ q
    obtain ⟨cs, rfl, hs⟩ := ih
    exact ⟨c :: cs, rfl, .cons hr hs⟩
/-- a comprehension's item: made, or left out -/
def lcB (g : DTG) (tt : DTT) (te : DTE) (x : Sl) (ρ : Sls) (st : Store) (N : Store → Prop) (P : Sl → Store → Prop) : Prop := g x ρ st fun ρ1 st2 => tt ρ1 st2 fun b st3 => match b with
  | true => te ρ1 st3 P
  | false => N st3
@[irreducible] def LcGo (g : DTG) (tt : DTT) (te : DTE) (xs : List Sl) (stay : Store → Prop) (ρ : Sls) (st : Store) (k : KD) : Prop := ∃ I : Nat → List Sl → Store → Prop, I 0 [] st ∧
  (∀ i x acc st', xs[i]? = some x → I i acc st' → stay st' ∧ lcB g tt te x ρ st' (I (i + 1) acc) fun y st4 => acc.length < sizeLine ∧ I (i + 1) (acc ++ [y]) st4) ∧ ∀ acc st', I xs.length acc st' → stay st' ∧ dNew acc st' k
section
variable {g : DTG} {tt : DTT} {te : DTE} {xs : List Sl} {stay : Store → Prop} {ρ : Sls} {st : Store} {k : KD}
theorem LcGo.out (h : LcGo g tt te xs stay ρ st k) : ∃ I : Nat → List Sl → Store → Prop, I 0 [] st ∧
  (∀ i x acc st', xs[i]? = some x → I i acc st' → stay st' ∧ lcB g tt te x ρ st' (I (i + 1) acc) fun y st4 => acc.length < sizeLine ∧ I (i + 1) (acc ++ [y]) st4) ∧ ∀ acc st', I xs.length acc st' → stay st' ∧ dNew acc st' k := by
  unfold LcGo at h
  exact h
theorem LcGo.inv (I : Nat → List Sl → Store → Prop) (h0 : I 0 [] st)
    (hs : ∀ i x acc st', xs[i]? = some x → I i acc st' → stay st' ∧ lcB g tt te x ρ st' (I (i + 1) acc) fun y st4 => acc.length < sizeLine ∧ I (i + 1) (acc ++ [y]) st4)
    (hd : ∀ acc st', I xs.length acc st' → stay st' ∧ dNew acc st' k) : LcGo g tt te xs stay ρ st k := by
  unfold LcGo
  exact ⟨I, h0, hs, hd⟩
/-- by what is done and what is made so far -/
theorem LcGo.done {α : Type} (L : List α) (e : α → Sl) (hL : xs = L.map e) (I : List α → List Sl → Store → Prop) (h0 : I [] [] st) (hn : L.length ≤ sizeLine)
    (hs : ∀ d a r acc st', L = d ++ a :: r → I d acc st' → stay st' ∧ ∀ (N : Store → Prop) (P : Sl → Store → Prop), (∀ S, I (d ++ [a]) acc S → N S) → (∀ y S, I (d ++ [a]) (acc ++ [y]) S → P y S) → lcB g tt te (e a) ρ st' N P)
    (hd : ∀ acc st', I L acc st' → stay st' ∧ dNew acc st' k) : LcGo g tt te xs stay ρ st k := by
  subst hL
  refine LcGo.inv (fun i acc s => I (L.take i) acc s ∧ acc.length ≤ i) ⟨h0, Nat.le_refl _⟩ (fun i x acc st' hx ⟨hi, hl⟩ => ?_) fun acc st' ⟨hi, _⟩ => ?_
  · rw [List.getElem?_map] at hx
    cases ha : L[i]? with
    | none =>
      rw [ha] at hx
      cases hx
    | some a =>
      rw [ha] at hx
      cases hx
      have hil := (List.getElem?_eq_some_iff.mp ha).1
      have e1 : L = L.take i ++ a :: L.drop (i + 1) := by
        have q := (List.take_append_drop i L).symm
        rw [List.drop_eq_getElem_cons hil] at q
        rw [(List.getElem?_eq_some_iff.mp ha).2] at q
        exact q
      have e2 : L.take (i + 1) = L.take i ++ [a] := by
        rw [List.take_add_one, ha]
        rfl
      obtain ⟨h1, h2⟩ := hs _ a _ acc st' e1 hi
      refine ⟨h1, h2 _ _ (fun S hS => ⟨by rw [e2]; exact hS, by omega⟩) fun y S hS => ⟨by omega, by rw [e2]; exact hS, by rw [List.length_append]; exact Nat.succ_le_succ hl⟩⟩
  · rw [List.length_map, List.take_length] at hi
    exact hd acc st' hi
/-- data made of each, the store as it is -/
theorem LcGo.map {α : Type} (L : List α) (e : α → Sl) (f : α → PyData) (hL : xs = L.map e) (hn : L.length ≤ sizeLine) (hst : stay st) (hs : ∀ a ∈ L, ∀ (N : Store → Prop) (P : Sl → Store → Prop), P (.d (f a)) st → lcB g tt te (e a) ρ st N P)
    (hd : k (.d (.list (L.map f))) st) : LcGo g tt te xs stay ρ st k := by
  refine LcGo.done L e hL (fun d acc s => s = st ∧ acc = (d.map f).map Sl.d) ⟨rfl, rfl⟩ hn ?_ ?_
  · rintro d a r acc s hL ⟨rfl, rfl⟩
    refine ⟨hst, fun N P _ hP => hs a (by rw [hL]; simp) N P (hP _ _ ⟨rfl, ?_⟩)⟩
    rw [List.map_append, List.map_append]
    rfl
  · rintro acc s ⟨rfl, rfl⟩
    exact ⟨hst, .inl ⟨_, rfl, hd⟩⟩
/-- data made of some -/
theorem LcGo.some {α : Type} (L : List α) (e : α → Sl) (f : α → Option PyData) (hL : xs = L.map e) (hn : L.length ≤ sizeLine) (hst : stay st) (hs : ∀ a ∈ L, ∀ (N : Store → Prop) (P : Sl → Store → Prop), (f a = none → N st) → (∀ y, f a = some y → P (.d y) st) → lcB g tt te (e a) ρ st N P)
    (hd : k (.d (.list (L.filterMap f))) st) : LcGo g tt te xs stay ρ st k := by
  refine LcGo.done L e hL (fun d acc s => s = st ∧ acc = (d.filterMap f).map Sl.d) ⟨rfl, rfl⟩ hn ?_ ?_
  · rintro d a r acc s hL ⟨rfl, rfl⟩
    refine ⟨hst, fun N P hN hP => hs a (by rw [hL]; simp) N P (fun z => hN _ ⟨rfl, ?_⟩) fun y z => hP _ _ ⟨rfl, ?_⟩⟩
    · rw [List.filterMap_append, List.filterMap_cons_none z, List.filterMap_nil, List.append_nil]
    · rw [List.filterMap_append, List.filterMap_cons_some z, List.filterMap_nil, List.map_append]
      rfl
  · rintro acc s ⟨rfl, rfl⟩
    exact ⟨hst, .inl ⟨_, rfl, hd⟩⟩
/-- data made of each, the store going on; Q what holds of what is made -/
theorem LcGo.each {α : Type} (L : List α) (e : α → Sl) (J : Store → Prop) (Q : α → PyData → Prop) (hL : xs = L.map e) (hn : L.length ≤ sizeLine) (h0 : J st) (hst : ∀ s, J s → stay s) (hs : ∀ a ∈ L, ∀ s, J s → ∀ (N : Store → Prop) (P : Sl → Store → Prop), (∀ y s', Q a y → J s' → P (.d y) s') → lcB g tt te (e a) ρ s N P)
    (hd : ∀ ds s, All2 Q L ds → J s → k (.d (.list ds)) s) : LcGo g tt te xs stay ρ st k := by
  refine LcGo.done L e hL (fun d acc s => J s ∧ ∃ ds, acc = ds.map Sl.d ∧ All2 Q d ds) ⟨h0, [], rfl, .nil⟩ hn ?_ ?_
  · rintro d a r acc s hL ⟨hJ, ds, rfl, hq⟩
    refine ⟨hst _ hJ, fun N P _ hP => hs a (by rw [hL]; simp) s hJ N P fun y s' hy hJ' => hP _ _ ⟨hJ', ds ++ [y], ?_, ?_⟩⟩
    · rw [List.map_append]
      rfl
    · exact hq.snoc hy
  · rintro acc s ⟨hJ, ds, rfl, hq⟩
    exact ⟨hst _ hJ, .inl ⟨_, rfl, hd ds s hq hJ⟩⟩
end
def dLc (wi : DTI) (g : DTG) (tt : DTT) (te : DTE) (vs : List Nat) : DTE := fun ρ st k => wi ρ st fun xs stay st1 => LcGo g tt te xs stay (dwipe ρ vs) st1 k
theorem str_drop {K : PySem.W.Frag} {fr : Fz} {H : Hp} {st : Store} {p : Addr} {xs : Cell} (s : StR K fr H (cset st p xs)) (n : st p = none) : StR K fr H st := ⟨fun a ys h => s.own a ys (by
  by_cases e : a = p
  · rw [e, n] at h
    cases h
  · rw [cset_ne e]
    exact h), s.low⟩
/-- an own list beside what runs stays as it is -/
theorem beside {K : PySem.W.Frag} {fr fr1 : Fz} {H H1 : Hp} {st st1 : Store} {p : Addr} {xs : List Sl} (s : StR K fr H (sset st p xs)) (n : st p = none) (e : Ext fr H st fr1 H1 st1) (s1 : StR K fr1 H1 st1) :
    StR K fr1 H1 (sset st1 p xs) ∧ st1 p = none ∧ Ext fr H (sset st p xs) fr1 H1 (sset st1 p xs) := by
  obtain ⟨f, ws, hw, hr⟩ := s.own p _ sset_same
  have n1 : st1 p = none := Classical.byContradiction fun z => by
    rcases e.dom p z with q | q
    · exact q n
    · rw [hw] at q
      cases q
  have ee : Ext fr H (sset st p xs) fr1 H1 (sset st1 p xs) := by
    refine ⟨fun a o h hs => e.keep a o h (hs.mono fun hz => ?_), e.there, e.frk, fun a h => ?_, fun a h => ?_, e.lk⟩
    · by_cases ea : a = p
      · rw [ea, sset_same] at hz
        cases hz
      · rw [sset_ne ea] at hz
        exact hz
    · rcases e.frn a h with q | q | q
      · exact .inl q
      · exact .inr (.inl q)
      · refine .inr (.inr ?_)
        by_cases ea : a = p
        · exact absurd n (ea ▸ q)
        · rw [sset_ne ea]
          exact q
    · by_cases ea : a = p
      · exact .inl (by rw [ea, sset_same]; simp)
      · rw [sset_ne ea] at h ⊢
        exact e.dom a h
  refine ⟨⟨fun a ys h => ?_, s1.low⟩, n1, ee⟩
  by_cases ea : a = p
  · subst ea
    rw [sset_same] at h
    cases h
    refine ⟨fun z => ?_, ws, e.keep _ _ hw n, hr.ex s.ow ee⟩
    rcases e.frn _ z with q | q | q
    · exact f q
    · rw [hw] at q
      cases q
    · exact q n
  · rw [sset_ne ea] at h
    exact s1.own a ys h
/-- an own object that is let go of -/
theorem ext_let {fr : Fz} {H : Hp} {st : Store} {p : Addr} {c : Cell} : Ext fr H (cset st p c) (fun a => fr a ∨ a = p) H st := by
  refine ⟨fun _ _ h _ => h, fun _ h => h, fun _ h => .inl h, fun a h => h.elim .inl fun z => .inr (.inr (by rw [z, cset_same]; simp)), fun a h => .inl ?_, fun _ xs h => ⟨xs, h⟩⟩
  by_cases ea : a = p
  · rw [ea, cset_same]
    simp
  · rw [cset_ne ea]
    exact h
theorem str_let {K : PySem.W.Frag} {fr : Fz} {H : Hp} {st : Store} {p : Addr} {c : Cell} (s : StR K fr H (cset st p c)) (n : st p = none) : StR K (fun a => fr a ∨ a = p) H st := by
  refine ⟨fun a ys ha => ?_, fun a ha => ha.elim (s.low a) fun z => by rw [z]; exact s.there cset_same⟩
  have hap : a ≠ p := fun z => by
    rw [z, n] at ha
    cases ha
  have q := s.own a ys (by rw [cset_ne hap]; exact ha)
  exact ⟨fun z => z.elim q.1 hap, q.2.ex s.ow ext_let rfl⟩
theorem QE.let {K : PySem.W.Frag} {fr : Fz} {H : Hp} {st : Store} {k : KD} {Q : VK} {p : Addr} {xs : List Sl} (q : QE K fr H (sset st p xs) k Q) (s : StR K fr H (sset st p xs)) (n : st p = none) (h : dNew xs st k) : Q (.ref p) H := by
  rcases h with ⟨ds, rfl, h⟩ | h
  · obtain ⟨f, ws, hw, hr⟩ := s.own p _ sset_same
    have e : Ext fr H (sset st p (ds.map Sl.d)) (fun a => fr a ∨ a = p) H st := ext_let
    exact q (.d (.list ds)) st _ _ _ h e (str_let s n) (.lst hw (.inr rfl) (RpAll.ex s.ow e hr.toRp))
  · exact q.now (h p n) s rfl
theorem le_lc {K : PySem.W.Frag} {wi : DTI} {g : DTG} {tt : DTT} {te : DTE} {vs : List Nat} {σ : L2.St} {H : Hp} {Q : VK} : LE K (dLc wi g tt te vs) σ H Q → tLc (LI K wi) (LG K vs g) (LT K tt) (LE K te) vs σ H Q := by
  rintro ⟨fr, ρ, st, k, w, h, q⟩
  refine ⟨fr, ρ, st, _, w, h, fun xs stay st1 fr1 H1 J k1 e1 s1 ok D nD => ?_⟩
  obtain ⟨I, i0, turn, done⟩ := k1.out
  have w1 := w.on e1 s1
  have sD : StR K fr1 (upd H1 D (.lst [])) (sset st1 D []) := s1.ownC nD ⟨[], upd_same, .nil⟩
  -- the list that grows is an own list beside all else
  refine ⟨fun i m H' => i + m = xs.length ∧ ∃ fr' st' acc, Ext fr1 H1 st1 fr' H' (sset st' D acc) ∧ Ext fr1 H1 st1 fr' H' st' ∧ StR K fr' H' (sset st' D acc) ∧ st' D = none ∧ I i acc st', ⟨xs.length, Nat.zero_add _, fr1, st1, [], Ext.own nD, Ext.new nD, sD, s1.nost nD, i0⟩, fun i m H2 hw => ?_⟩
  obtain ⟨hm, fr2, st2, acc, e2, e2', s2', nS, i2⟩ := hw
  have s2 := str_drop s2' nS
  have w2 : Wd K fr2 H2 σ ρ st2 := w1.on e2' s2
  by_cases hi : i < xs.length
  · have hx : xs[i]? = some xs[i] := List.getElem?_eq_getElem hi
    obtain ⟨hst, hg2⟩ := turn i _ acc st2 hx i2
    obtain ⟨go, hy⟩ := (ok i fr2 H2 st2 e2' s2 hst).1 _ hx
    refine .inr ⟨go, fun H3 => ∃ fr' st' acc, Ext fr1 H1 st1 fr' H3 (sset st' D acc) ∧ Ext fr1 H1 st1 fr' H3 st' ∧ StR K fr' H3 (sset st' D acc) ∧ st' D = none ∧ I (i + 1) acc st', fun H3 z => ⟨m - 1, by omega, by omega, z⟩, fun v H3 y3 => ?_⟩
    obtain ⟨fr3, e3, s3, r3⟩ := hy v H3 y3
    refine ⟨fr3, dwipe ρ vs, st2, _, _, (w2.on e3 s3).wipe vs, r3, hg2, fun ρ4 st4 fr4 H4 σ4 k4 e4 w4 c4 => ⟨c4.trans (wipe_twice σ vs), ?_⟩⟩
    refine ⟨fr4, ρ4, st4, _, w4, k4, fun b st5 fr5 H5 k5 e5 s5 => ?_⟩
    have e25 := (e3.trans e4).trans e5
    cases b with
    | true =>
      refine iteT ⟨fr5, ρ4, st5, _, w4.on e5 s5, k5, fun y st6 fr6 H6 v6 k6 e6 s6 r6 => ?_⟩
      have e26 := e25.trans e6
      obtain ⟨t6, n6, ee⟩ := beside s2' nS e26 s6
      obtain ⟨f, ws, hw, hr⟩ := t6.own D _ sset_same
      have t7 : StR K fr6 (upd H6 D (.lst (ws ++ [v6]))) (sset (sset st6 D acc) D (acc ++ [y])) := str_set sset_same t6 (hr.app (.cons r6 .nil))
      have e7 : Ext fr6 H6 (sset st6 D acc) fr6 (upd H6 D (.lst (ws ++ [v6]))) (sset (sset st6 D acc) D (acc ++ [y])) := ext_set sset_same t6
      rw [sset_sset] at t7 e7
      have e17 := (e2.trans ee).trans e7
      have nD1 : H1 D = none := nD
      refine ⟨ws, hw, by rw [hr.length]; exact k6.1, fr6, st6, acc ++ [y], e17, ⟨e17.keep, e17.there, e17.frk, e17.frn, fun a ha => e17.dom a ?_, e17.lk⟩, t7, n6, k6.2⟩
      by_cases ea : a = D
      · exact absurd n6 (ea ▸ ha)
      · rw [sset_ne ea]
        exact ha
    | false =>
      obtain ⟨t5, n5, ee⟩ := beside s2' nS e25 s5
      exact iteF ⟨fr5, st5, acc, e2.trans ee, e2'.trans e25, t5, n5, k5⟩
  · have ei : i = xs.length := by omega
    subst ei
    obtain ⟨hst, hd⟩ := done acc st2 i2
    exact .inl ⟨(ok _ fr2 H2 st2 e2' s2 hst).2 (Nat.le_refl _), QE.let (q.at (e1.trans e2)) s2' nS hd⟩
section
variable {X : Cx} {elt tg iter : Expr} {ifs : List Expr} {scope : Scope} {pos : Pos} {wi : DTI} {g : DTG} {tt : DTT} {te : DTE}
theorem d_lc (own : List (Str × Nat)) (hc : X.calm = true) (hN : X.N.Nodup) (hi : DI X tg iter wi) (ok : BlkOk X.N X.env.scope scope own)
    (hg : ∀ (s : Shared) (H : Hp) (C : Addr) (cl : List (Str × Addr)) (fp : List Addr), DG (X.blk s H scope (compEnvC scope cl C X.env) fp) (own.map (·.2)) tg g) (ht : ∀ (s : Shared) (H : Hp) (C : Addr) (cl : List (Str × Addr)) (fp : List Addr), DTs (X.blk s H scope (compEnvC scope cl C X.env) fp) ifs tt)
    (he : ∀ (s : Shared) (H : Hp) (C : Addr) (cl : List (Str × Addr)) (fp : List Addr), DE (X.blk s H scope (compEnvC scope cl C X.env) fp) elt te) (hs : ∀ x, foldedSetIterable iter X.env x = pure x := by intro _; rfl) :
    DE X (.ListComp elt [⟨tg, iter, ifs, 0⟩] scope pos) (dLc wi g tt te (own.map (·.2))) := pe_imp (pe_lc hc hN hi ok hg ht he hs) fun _ _ _ => le_lc
theorem le_setLc {K : PySem.W.Frag} {vs : List Nat} {i : Nat} {D : Ends} {σ : L2.St} {H : Hp} : LS K (dAsg (dLc wi g tt te vs) (gN i)) D σ H → tAsg (tLc (LI K wi) (LG K vs g) (LT K tt) (LE K te) vs) (gName i) D σ H := fun ⟨fr, ρ, st, k, w, h, q⟩ =>
  le_lc ⟨fr, ρ, st, _, w, h, fun x st1 fr1 H1 v k1 e1 s1 r1 => q.nx _ _ _ _ _ k1 e1 ((w.on e1 s1).put r1 i)⟩
end
end DL
namespace DL
open PySem PySem.Spec PyProof.Rows L2
/-! ### what is walked -/
section
variable {K : PySem.W.Frag} {fr : Fz} {H : Hp} {st : Store}
theorem rp_tup {a : Addr} {ds : List PyData} (h : Rp K fr H (.ref a) (.tuple ds)) : ∃ ws, SqT K H a ws ∧ RpAll K fr H ws ds := by
  cases h with
  | tup h r => exact ⟨_, h, r⟩
theorem rp_tupv {v : V} {ds : List PyData} (h : Rp K fr H v (.tuple ds)) : ∃ a ws, v = .ref a ∧ SqT K H a ws ∧ RpAll K fr H ws ds := by
  cases h with
  | tup h r => exact ⟨_, _, rfl, h, r⟩
theorem rp_lstp {v : V} {ds : List PyData} (h : Rp K fr H v (.list ds)) : ∃ a ws, v = .ref a ∧ H a = some (.lst ws) ∧ RpAll K fr H ws ds := by
  cases h with
  | lst h f r => exact ⟨_, _, rfl, h, r⟩
theorem rp_lstv {v : V} {ds : List PyData} (h : Rp K fr H v (.list ds)) : ∃ a ws, v = .ref a ∧ SqL K H a ws ∧ RpAll K fr H ws ds := by
  cases h with
  | lst h f r => exact ⟨_, _, rfl, .inl (.inl h), r⟩
theorem rol_v {v : V} {ds : List PyData} (h : RoL K fr H v ds) : ∃ a ws, v = .ref a ∧ SqL K H a ws ∧ RpAll K fr H ws ds := by
  obtain ⟨a, ws, e, r, h⟩ := h
  rcases h with ⟨o, h⟩ | h
  · exact ⟨a, ws, e, .inl (.inr ⟨o, h⟩), r⟩
  · exact ⟨a, ws, e, .inr h, r⟩
theorem sql_ex {fr1 : Fz} {H1 : Hp} {st1 : Store} (w : Ow fr H st) (e : Ext fr H st fr1 H1 st1) {a : Addr} {ds : List PyData} (h : Rp K fr H (.ref a) (.list ds)) : ∃ ws, SqL K H1 a ws ∧ RpAll K fr1 H1 ws ds := by
  obtain ⟨b, ws, hb, h1, h2⟩ := rp_lstv (Rp.ex w e h)
  cases hb
  exact ⟨ws, h1, h2⟩
/-- a list's or tuple's items, as they are told -/
def seqOf (st : Store) : Sl → Option (List Sl)
  | .d (.list ds) => some (ds.map Sl.d)
  | .d (.tuple ds) => some (ds.map Sl.d)
  | .o p => (match st p with
    | some (.l xs) => some xs
    | _ => none)
  | .r ds => some (ds.map Sl.d)
  | .tn => some []
  | .tc a b => some (a :: itT b)
  | _ => none
theorem seq_at {x : Sl} {v : V} {xs : List Sl} (s : StR K fr H st) (r : SlR K fr H v x) (h : seqOf st x = some xs) : ∃ a ws, v = .ref a ∧ (SqL K H a ws ∨ SqT K H a ws) ∧ SlsR K fr H ws xs := by
  unfold seqOf at h
  split at h
  · cases h
    obtain ⟨a, ws, e, h1, h2⟩ := rp_lstv r
    exact ⟨a, ws, e, .inl h1, SlsR.ofRp h2⟩
  · cases h
    obtain ⟨a, ws, e, h1, h2⟩ := rp_tupv r
    exact ⟨a, ws, e, .inr h1, SlsR.ofRp h2⟩
  · next p =>
    split at h
    · next ys hy =>
      cases h
      obtain ⟨_, ws, hw, hr⟩ := s.own p _ hy
      exact ⟨p, ws, r, .inl (SqL.of hw), hr⟩
    · cases h
  · cases h
    obtain ⟨a, ws, e, h1, h2⟩ := rol_v r
    exact ⟨a, ws, e, .inl h1, SlsR.ofRp h2⟩
  · cases h
    obtain ⟨t, e, h1⟩ := r
    exact ⟨t, [], e, .inr h1, .nil⟩
  · cases h
    obtain ⟨t, u, us, e, h1, h2, h3⟩ := r
    exact ⟨t, _, e, .inr h1, .cons h2 (itT_at h3)⟩
  · cases h
end
def iSeq (K : PySem.W.Frag) (tl : TE) : TI := fun σ H R => tl σ H fun x H1 => ∃ a, x = .ref a ∧ (((∃ xs, SqL K H1 a xs) ∧ R (Itl K a) H1) ∨ ((∃ xs, SqT K H1 a xs) ∧ R (Itt K a) H1))
theorem pi_seq {X : Cx} {tg l : Expr} {tl : TE} (hl : PE X l tl) : PI X tg l (iSeq X.K tl) := by
  constructor
  intro pins s σ H R I h
  refine thn (hl.run pins s σ H _ I h) fun v s1 h1 => ?_
  obtain ⟨x, H1, I1, r1, a, rfl, q⟩ := h1
  obtain rfl : v = Value.ref a := r1
  have fin : ∀ b ∈ [s1.heap.objs.size], FpOk X pins H1 b := fun b hb => by
    have e : b = s1.heap.objs.size := by simpa using hb
    rw [e]
    exact I1.fpOk (Nat.le_refl _) (I1.hok.fresh (Nat.le_refl _))
  rcases q with ⟨⟨xs, hq⟩, q⟩ | ⟨⟨xs, hq⟩, q⟩
  · obtain ⟨its, rv, p, hz⟩ := I1.list hq
    exact wpAny_pyIter_list p.isList ⟨_, _, _, _, H1, rfl, I1.kept (t' := s1.toks) fun _ _ e => Heap.get?_push_of_some _ e, turn_list a _, ⟨_, Heap.get?_push_size _ rfl, rfl, rfl⟩, fin, q⟩
  · obtain ⟨its, rv, p, hz⟩ := I1.tuple hq
    exact wpAny_pyIter_tuple p ⟨_, _, _, _, H1, rfl, I1.kept (t' := s1.toks) fun _ _ e => Heap.get?_push_of_some _ e, turn_tuple a _, ⟨_, Heap.get?_push_size _ rfl, rfl, rfl⟩, fin, q⟩
def stays (x : Sl) (xs : List Sl) : Store → Prop := match x with
  | .o p => fun st => st p = some (.l xs)
  | _ => fun _ => True
def iSq (te : DTE) : DTI := fun ρ st k => te ρ st fun x st1 => match seqOf st1 x with
  | some xs => k xs (stays x xs) st1
  | none => False
theorem itl_ok {K : PySem.W.Frag} {fr : Fz} {H : Hp} {st : Store} {a : Addr} {xs : List Sl} {stay : Store → Prop}
    (h : ∀ fr' H' st', Ext fr H st fr' H' st' → StR K fr' H' st' → stay st' → ∃ ws, SqL K H' a ws ∧ SlsR K fr' H' ws xs) : ItOk K fr H st (Itl K a) xs stay := fun i fr1 H1 st1 e1 s1 y1 => by
  obtain ⟨ws, hq, hr⟩ := h fr1 H1 st1 e1 s1 y1
  refine ⟨fun x hx => ?_, fun hi => ⟨ws, hq, by rw [hr.length]; exact hi⟩⟩
  obtain ⟨v, hv, rv⟩ := hr.get hx
  refine ⟨⟨ws, v, hq, hv⟩, fun u H2 y2 => ?_⟩
  obtain ⟨rfl, g⟩ := y2
  have e : u = v := Option.some.inj ((g ws hq).symm.trans hv)
  subst e
  exact ⟨fr1, Ext.refl _ _ _, s1, rv⟩
theorem itt_ok {K : PySem.W.Frag} {fr : Fz} {H : Hp} {st : Store} {a : Addr} {xs : List Sl} {stay : Store → Prop}
    (h : ∀ fr' H' st', Ext fr H st fr' H' st' → StR K fr' H' st' → stay st' → ∃ ws, SqT K H' a ws ∧ SlsR K fr' H' ws xs) : ItOk K fr H st (Itt K a) xs stay := fun i fr1 H1 st1 e1 s1 y1 => by
  obtain ⟨ws, hq, hr⟩ := h fr1 H1 st1 e1 s1 y1
  refine ⟨fun x hx => ?_, fun hi => ⟨ws, hq, by rw [hr.length]; exact hi⟩⟩
  obtain ⟨v, hv, rv⟩ := hr.get hx
  refine ⟨⟨ws, v, hq, hv⟩, fun u H2 y2 => ?_⟩
  obtain ⟨rfl, g⟩ := y2
  have e : u = v := Option.some.inj ((g ws hq).symm.trans hv)
  subst e
  exact ⟨fr1, Ext.refl _ _ _, s1, rv⟩
theorem i_seq {X : Cx} {tg e : Expr} {te : DTE} (he : DE X e te) : DI X tg e (iSq te) := pi_imp (pi_seq he) fun σ H R h1 => by
  obtain ⟨fr, ρ, st, k, w, h, q⟩ := h1
  refine ⟨fr, ρ, st, _, w, h, fun x st1 fr1 H1 v k1 e1 s1 r1 => ?_⟩
  split at k1
  · next xs hxs =>
    unfold seqOf at hxs
    split at hxs
    · next ds =>
      cases hxs
      obtain ⟨a, ws, rfl, h1, h2⟩ := rp_lstv r1
      refine ⟨a, rfl, .inl ⟨⟨ws, h1⟩, q _ _ _ _ _ _ k1 e1 s1 (itl_ok fun fr2 H2 st2 e2 s2 _ => ?_)⟩⟩
      obtain ⟨zs, z1, z2⟩ := sql_ex s1.ow e2 r1
      exact ⟨zs, z1, SlsR.ofRp z2⟩
    · next ds =>
      cases hxs
      obtain ⟨a, ws, rfl, h1, h2⟩ := rp_tupv r1
      refine ⟨a, rfl, .inr ⟨⟨ws, h1⟩, q _ _ _ _ _ _ k1 e1 s1 (itt_ok fun fr2 H2 st2 e2 s2 _ => ?_)⟩⟩
      exact ⟨ws, sqt_ex s1.ow e2 h1, SlsR.ofRp (RpAll.ex s1.ow e2 h2)⟩
    · next p =>
      obtain rfl : v = .ref p := r1
      split at hxs
      · next ys hy =>
        cases hxs
        obtain ⟨_, ws, hw, hr⟩ := s1.own p _ hy
        refine ⟨p, rfl, .inl ⟨⟨ws, SqL.of hw⟩, q _ _ _ _ _ _ k1 e1 s1 (itl_ok fun fr2 H2 st2 e2 s2 y2 => ?_)⟩⟩
        obtain ⟨_, zs, hz, hr2⟩ := s2.own p _ y2
        exact ⟨zs, SqL.of hz, hr2⟩
      · cases hxs
    · next ds =>
      cases hxs
      obtain ⟨a, ws, rfl, h1, h2⟩ := rol_v r1
      refine ⟨a, rfl, .inl ⟨⟨ws, h1⟩, q _ _ _ _ _ _ k1 e1 s1 (itl_ok fun fr2 H2 st2 e2 s2 _ => ?_)⟩⟩
      have r2 : SlR X.K fr2 H2 (.ref a) (.r ds) := SlR.ex s1.ow e2 r1
      obtain ⟨b, zs, eb, z1, z2⟩ := rol_v r2
      cases eb
      exact ⟨zs, z1, SlsR.ofRp z2⟩
    · cases hxs
      obtain ⟨t, rfl, h1⟩ := r1
      exact ⟨t, rfl, .inr ⟨⟨[], h1⟩, q _ _ _ _ _ _ k1 e1 s1 (itt_ok fun fr2 H2 st2 e2 s2 _ => ⟨[], sqt_ex s1.ow e2 h1, .nil⟩)⟩⟩
    · cases hxs
      have r0 := r1
      obtain ⟨t, u, us, rfl, h1, h2, h3⟩ := r1
      exact ⟨t, rfl, .inr ⟨⟨_, h1⟩, q _ _ _ _ _ _ k1 e1 s1 (itt_ok fun fr2 H2 st2 e2 s2 _ => ⟨_, sqt_ex s1.ow e2 h1, .cons (SlR.ex s1.ow e2 h2) (itT_at ((SlP.ex s1.ow e2).2 _ h3))⟩)⟩⟩
    · cases hxs
  · exact k1.elim
/-- range(n), range(a, b) -/
def rngs (lo : Int) (n : Nat) : List Sl := (List.range n).map fun i => Sl.d (.int (lo + (i : Nat)))
def iRg1 (ta : DTA) : DTI := fun ρ st k => ta ρ st fun xs st1 => match xs with
  | [.d (.int n)] => (-(2 ^ 62) ≤ n ∧ n < 2 ^ 62) ∧ k (rngs 0 n.toNat) (fun _ => True) st1
  | _ => False
def iRg2 (ta : DTA) : DTI := fun ρ st k => ta ρ st fun xs st1 => match xs with
  | [.d (.int a), .d (.int b)] => (-(2 ^ 62) ≤ a ∧ a < 2 ^ 62 ∧ -(2 ^ 62) ≤ b ∧ b < 2 ^ 62) ∧ k (rngs a (b - a).toNat) (fun _ => True) st1
  | _ => False
theorem rngs_len (lo : Int) (n : Nat) : (rngs lo n).length = n := by unfold rngs; rw [List.length_map, List.length_range]
theorem rngs_get {lo : Int} {n i : Nat} {x : Sl} (h : (rngs lo n)[i]? = some x) : i < n ∧ x = .d (.int (lo + (i : Nat))) := by
  unfold rngs at h
  rw [List.getElem?_map] at h
  cases e : (List.range n)[i]? with
  | none =>
    rw [e] at h
    cases h
  | some j =>
    rw [e] at h
    have hl := (List.getElem?_eq_some_iff.mp e).1
    rw [List.length_range] at hl
    rw [List.getElem?_range hl] at e
    cases e
    cases h
    exact ⟨hl, rfl⟩
theorem itr_ok {K : PySem.W.Frag} {fr : Fz} {H : Hp} {st : Store} {lo : Int} {n : Nat} : ItOk K fr H st (Itr lo n) (rngs lo n) (fun _ => True) := fun i fr1 H1 st1 e1 s1 _ => by
  refine ⟨fun x hx => ?_, fun hi => by rw [rngs_len] at hi; exact hi⟩
  obtain ⟨hi, rfl⟩ := rngs_get hx
  refine ⟨hi, fun v H2 y => ?_⟩
  obtain ⟨rfl, rfl⟩ := y
  exact ⟨fr1, Ext.refl _ _ _, s1, .int _⟩
theorem i_rg1 {X : Cx} {tg a : Expr} {ta : DTA} {p pos : Pos} (hm : X.mg "range" = none) (ha : DA X [a] ta) (hg : Gl X "range" := by rfl) (hs : starEach [a] X.env = [(false, eval a X.env)] := by rfl) : DI X tg (.Call (.Name "range" p) [a] [] pos) (iRg1 ta) :=
  pi_imp (pi_range1 hg hm ha hs) fun σ H R h1 => by
    obtain ⟨fr, ρ, st, k, w, h, q⟩ := h1
    refine ⟨fr, ρ, st, _, w, h, fun xs st1 fr1 H1 vs k1 e1 s1 r1 => ?_⟩
    split at k1
    · next n =>
      cases r1 with
      | cons r rr =>
        cases rr
        exact ⟨n, by rw [rp_int r], k1.1.1, k1.1.2, q _ _ _ _ _ _ k1.2 e1 s1 itr_ok⟩
    · exact k1.elim
theorem i_rg2 {X : Cx} {tg a b : Expr} {ta : DTA} {p pos : Pos} (hm : X.mg "range" = none) (ha : DA X [a, b] ta) (hg : Gl X "range" := by rfl) (hs : starEach [a, b] X.env = [(false, eval a X.env), (false, eval b X.env)] := by rfl) (hs2 : starEach [b] X.env = [(false, eval b X.env)] := by rfl) :
    DI X tg (.Call (.Name "range" p) [a, b] [] pos) (iRg2 ta) := pi_imp (pi_range2 hg hm ha hs hs2) fun σ H R h1 => by
    obtain ⟨fr, ρ, st, k, w, h, q⟩ := h1
    refine ⟨fr, ρ, st, _, w, h, fun xs st1 fr1 H1 vs k1 e1 s1 r1 => ?_⟩
    split at k1
    · next a b =>
      cases r1 with
      | cons r rr =>
        cases rr with
        | cons r2 rr =>
          cases rr
          exact ⟨a, b, by rw [rp_int r, rp_int r2], k1.1, q _ _ _ _ _ _ k1.2 e1 s1 itr_ok⟩
    · exact k1.elim
/-! ### operators by values -/
def fI0 (g : Int → Int → PyData) : D2 := fun x y st k => match x, y with
  | .d (.int i), .d (.int j) => k (.d (g i j)) st
  | _, _ => False
def fI (C : Int → Int → Prop) (g : Int → Int → PyData) : D2 := fun x y st k => match x, y with
  | .d (.int i), .d (.int j) => C i j ∧ k (.d (g i j)) st
  | _, _ => False
theorem r2_I0 {K : PySem.W.Frag} {g : Int → Int → V} {g' : Int → Int → PyData} (hg : ∀ fr H i j, Rp K fr H (g i j) (g' i j)) : R2D K (rI0 g) (fI0 g') := fun fr H st x y sx sy k Q s rx ry h q => by
  unfold fI0 at h
  split at h
  · exact ⟨_, _, rp_int rx, rp_int ry, q.now h s (hg fr H _ _)⟩
  · exact h.elim
theorem r2_I {K : PySem.W.Frag} {C : Int → Int → Prop} {g : Int → Int → V} {g' : Int → Int → PyData} (hg : ∀ fr H i j, Rp K fr H (g i j) (g' i j)) : R2D K (rI C g) (fI C g') := fun fr H st x y sx sy k Q s rx ry h q => by
  unfold fI at h
  split at h
  · exact ⟨_, _, rp_int rx, rp_int ry, h.1, q.now h.2 s (hg fr H _ _)⟩
  · exact h.elim
theorem OpR.or {X : Cx} {f : Value → Value → Sem Value} {r r' : R2} (h : OpR X f r) (h' : OpR X f r') : OpR X f (fun x y H Q => r x y H Q ∨ r' x y H Q) := fun pins s σ H x y v u Q I rx ry q => q.elim (h pins s σ H x y v u Q I rx ry) (h' pins s σ H x y v u Q I rx ry)
/-- a list's items -/
def lstOf (st : Store) : Sl → Option (List Sl)
  | .d (.list ds) => some (ds.map Sl.d)
  | .o p => (match st p with
    | some (.l xs) => some xs
    | _ => none)
  | .r ds => some (ds.map Sl.d)
  | _ => none
theorem lst_at {K : PySem.W.Frag} {fr : Fz} {H : Hp} {st : Store} {x : Sl} {v : V} {xs : List Sl} (s : StR K fr H st) (r : SlR K fr H v x) (h : lstOf st x = some xs) : ∃ a ws, v = .ref a ∧ SqL K H a ws ∧ SlsR K fr H ws xs := by
  unfold lstOf at h
  split at h
  · cases h
    obtain ⟨a, ws, e, h1, h2⟩ := rp_lstv r
    exact ⟨a, ws, e, h1, SlsR.ofRp h2⟩
  · next p =>
    split at h
    · next ys hy =>
      cases h
      obtain ⟨_, ws, hw, hr⟩ := s.own p _ hy
      exact ⟨p, ws, r, SqL.of hw, hr⟩
    · cases h
  · cases h
    obtain ⟨a, ws, e, h1, h2⟩ := rol_v r
    exact ⟨a, ws, e, h1, SlsR.ofRp h2⟩
  · cases h
end DL
/-! tuple * int, by any number not below 0 -/
namespace DL
open PySem PySem.Spec PyProof.Rows L2
theorem tm_one (l : Addr) (items : Array Value) (n : Nat) (dd : Option Addr) (sl : Array (Option Value)) (u : Tok) :
    Meets (Builtin.«tuple.__mul__» ⟨[.ref l, .int 1 u], []⟩) (fun _ R s => s.heap.get? l = some { cls := .type "tuple", dict := dd, data := .seq items n, slots := sl } ∧ R (.ok (.ret (Value.ref l))) s) :=
  .of_wp fun prog w A R s h => by
    obtain ⟨hp, g, d, tk, os⟩ := s; obtain ⟨hl, h⟩ := h
    have f1 := AutoSeq1.idx_int
    have c1 : (items.isEmpty || (1 : Int) == 1) = true := by simp
    wp_walk using wpAny_loadPart' hl
    repeat (first
      | (refine wpAny_ite_true (decide_eq_true (by rw [c1])) ?_; wp_walk using wpAny_loadPart' hl)
      | (rw [if_pos (by simp)]; wp_walk using wpAny_loadPart' hl))
    exact ⟨_, rfl, h⟩
theorem tm_zero (l : Addr) (items : Array Value) (n : Nat) (dd : Option Addr) (sl : Array (Option Value)) (u : Tok) (he : items.isEmpty = false) :
    Meets (Builtin.«tuple.__mul__» ⟨[.ref l, .int 0 u], []⟩) (fun _ R s => s.heap.get? l = some { cls := .type "tuple", dict := dd, data := .seq items n, slots := sl } ∧
      R (.ok (.ret (Value.ref s.heap.objs.size))) { s with heap := s.heap.push { cls := Value.type "tuple", data := Data.seq #[] }, toks := s.toks }) :=
  .of_wp fun prog w A R s h => by
    obtain ⟨hp, g, d, tk, os⟩ := s; obtain ⟨hl, h⟩ := h
    have f1 := AutoSeq1.idx_int
    have c1 : (items.isEmpty || (0 : Int) == 1) = false := by rw [he]; rfl
    wp_walk using wpAny_loadPart' hl
    exact ⟨_, rfl, h⟩
def rRepA (K : PySem.W.Frag) : R2 := fun x y H Q => ∃ l k xs, x = .ref l ∧ y = .int k ∧ SqT K H l xs ∧ xs ≠ [] ∧ 0 ≤ k ∧ k ≤ 1000 ∧ xs.length ≤ 1000 ∧ (k = 1 → Q (.ref l) H) ∧ ∀ p, H p = none → Q (.ref p) (upd H p (.tup (List.replicate k.toNat xs).flatten))
theorem op_repA {X : Cx} : OpR X (binaryOp .Mult) (rRepA X.K) := by
  intro pins s σ H x y v u Q I rx ry h
  obtain ⟨l, k, xs, rfl, rfl, hT, hne, h1, h2, hz, q1, q⟩ := h
  by_cases hk : 2 ≤ k
  · exact op_repT pins s σ H _ _ v u Q I rx ry ⟨l, k, xs, rfl, rfl, hT, hne, hk, h2, hz, q⟩
  cases rx
  obtain ⟨t, rfl⟩ := ry
  obtain ⟨its, r, ⟨⟨cls, dd, data, sl⟩, ho, hc, n, hd⟩, hs⟩ := I.tuple hT
  simp only at hc hd
  subst hc hd
  have hi : its.toArray.isEmpty = false := by
    cases its with
    | nil =>
      cases r
      exact absurd rfl hne
    | cons a b => rfl
  refine wpAny_binaryOp_repeat_ref (T := "tuple") (U := "int") (by decide) ⟨_, ho, rfl⟩ (fun s' => typeIs_int s' k t) noFill_tuple_mul F.fills_int_mul F.slot_int_rmul repeat_tuple F.slot_int_index.lookup
    (call_meets F.slot_int_rmul (typeIs_int s k t) F.entry_int_rmul (F.args_int_rmul_2 _ _) (int_rmul_tuple k t l its.toArray n dd sl) ⟨ho, rfl, ⟨_, ho, rfl⟩, ?_⟩)
  rcases (by omega : k = 0 ∨ k = 1) with rfl | rfl
  · refine call_meets F.slot_tuple_mul ⟨_, ho, rfl⟩ F.entry_tuple_mul (F.args_tuple_mul_2 _ _) (tm_zero l its.toArray n dd sl t hi) ⟨ho, ?_⟩
    exact ⟨.ref s.heap.objs.size, _, I.laid (t' := s.toks) (o := .tup []) (fun b ob q => Heap.get?_push_of_some _ q) (Nat.le_refl _) ⟨Nat.zero_le _, [], .nil, IsTup.new _ _⟩, rfl, q _ (I.hok.fresh (Nat.le_refl _))⟩
  · refine call_meets F.slot_tuple_mul ⟨_, ho, rfl⟩ F.entry_tuple_mul (F.args_tuple_mul_2 _ _) (tm_one l its.toArray n dd sl t) ⟨ho, ?_⟩
    exact ⟨.ref l, H, I, rfl, q1 rfl⟩
end DL
namespace DL
open PySem PySem.Spec PyProof.Rows L2
/-! ### dicts over data -/
section
variable {κ α : Type} [DecidableEq κ]
def valS (es : List (κ × α)) (k : κ) : Option α := (es.find? fun e => decide (e.1 = k)).map (·.2)
def putS (es : List (κ × α)) (k : κ) (v : α) : List (κ × α) := if (es.any fun e => decide (e.1 = k)) = true then es.map (fun e => if e.1 = k then (e.1, v) else e) else es ++ [(k, v)]
theorem valS_nil {k : κ} : valS ([] : List (κ × α)) k = none := rfl
theorem valS_pos {p : κ × α} {r : List (κ × α)} {k : κ} (e : p.1 = k) : valS (p :: r) k = some p.2 := by simp [valS, List.find?_cons, e]
theorem valS_neg {p : κ × α} {r : List (κ × α)} {k : κ} (e : ¬ p.1 = k) : valS (p :: r) k = valS r k := by simp [valS, List.find?_cons, e]
theorem valS_any (k : κ) : ∀ es : List (κ × α), (es.any fun kv => decide (kv.1 = k)) = (valS es k).isSome
  | [] => rfl
  | p :: r => by
    rw [List.any_cons]
    by_cases e : p.1 = k
    · rw [valS_pos e, decide_eq_true e]
      rfl
    · rw [valS_neg e, decide_eq_false e, valS_any k r]
      rfl
theorem putS_new {es : List (κ × α)} {k : κ} {v : α} (h : valS es k = none) : putS es k v = es ++ [(k, v)] := by
  unfold putS
  rw [valS_any, h]
  rfl
theorem putS_old {es : List (κ × α)} {k : κ} {v : α} (h : (valS es k).isSome = true) : putS es k v = es.map (fun e => if e.1 = k then (e.1, v) else e) := by
  unfold putS
  rw [valS_any, if_pos h]
theorem valS_map (k j : κ) (y : α) : ∀ es : List (κ × α), valS (es.map fun e => if e.1 = k then (e.1, y) else e) j = (valS es j).map fun x => if j = k then y else x
  | [] => rfl
  | p :: r => by
    rw [List.map_cons]
    by_cases e : p.1 = j
    · subst e
      by_cases e2 : p.1 = k
      · rw [if_pos e2, valS_pos rfl, valS_pos rfl, Option.map_some, if_pos e2]
      · rw [if_neg e2, valS_pos rfl, valS_pos rfl, Option.map_some, if_neg e2]
    · rw [valS_neg e, ← valS_map k j y r]
      by_cases e2 : p.1 = k
      · rw [if_pos e2, valS_neg (p := (p.1, y)) e]
      · rw [if_neg e2, valS_neg e]
theorem valS_snoc (k j : κ) (y : α) : ∀ es : List (κ × α), valS es k = none → valS (es ++ [(k, y)]) j = if j = k then some y else valS es j
  | [], _ => by
    by_cases e : k = j
    · rw [if_pos e.symm, List.nil_append, valS_pos e]
    · rw [if_neg (fun z => e z.symm), List.nil_append, valS_neg e]
  | p :: r, h => by
    have ek : ¬ p.1 = k := fun z => by
      rw [valS_pos z] at h
      cases h
    rw [valS_neg ek] at h
    rw [List.cons_append]
    by_cases e : p.1 = j
    · rw [valS_pos e, valS_pos e, if_neg fun z => ek (e.trans z)]
    · rw [valS_neg e, valS_neg e, valS_snoc k j y r h]
theorem valS_put (es : List (κ × α)) (k j : κ) (y : α) : valS (putS es k y) j = if j = k then some y else valS es j := by
  cases h : valS es k with
  | none => rw [putS_new h, valS_snoc k j y es h]
  | some v =>
    rw [putS_old (by rw [h]; rfl), valS_map]
    by_cases e : j = k
    · subst e
      rw [h, if_pos rfl, Option.map_some, if_pos rfl]
    · rw [if_neg e]
      cases valS es j with
      | none => rfl
      | some x => rw [Option.map_some, if_neg e]
theorem length_putS (es : List (κ × α)) (k : κ) (v : α) : (putS es k v).length ≤ es.length + 1 := by
  unfold putS
  split
  · rw [List.length_map]
    omega
  · rw [List.length_append]
    exact Nat.le_refl _
variable {K : PySem.W.Frag} {fr : Fz} {H : Hp}
theorem KsR.val {ws : List (κ × V)} {es : List (κ × Sl)} (r : KsR K fr H ws es) (k : κ) : ∀ {x : Sl}, valS es k = some x → ∃ v, valV ws k = some v ∧ SlR K fr H v x := by
  induction r with
  | nil => intro x h; cases h
  | @cons k' v vs y ys a b ih =>
    intro x h
    by_cases e : k' = k
    · rw [valS_pos (p := (k', y)) e] at h
      cases h
      exact ⟨v, valV_pos (p := (k', v)) e, a⟩
    · rw [valS_neg (p := (k', y)) e] at h
      obtain ⟨u, h1, h2⟩ := ih h
      exact ⟨u, (valV_neg (p := (k', v)) e).trans h1, h2⟩
theorem KsR.noval {ws : List (κ × V)} {es : List (κ × Sl)} (r : KsR K fr H ws es) (k : κ) (h : valS es k = none) : valV ws k = none := by
  induction r with
  | nil => rfl
  | @cons k' v vs y ys a b ih =>
    by_cases e : k' = k
    · rw [valS_pos (p := (k', y)) e] at h
      cases h
    · rw [valS_neg (p := (k', y)) e] at h
      exact (valV_neg (p := (k', v)) e).trans (ih h)
theorem KsR.isSome {ws : List (κ × V)} {es : List (κ × Sl)} (r : KsR K fr H ws es) (k : κ) : (valV ws k).isSome = (valS es k).isSome := by
  cases h : valS es k with
  | none => rw [r.noval k h]; rfl
  | some x =>
    obtain ⟨v, h1, _⟩ := r.val k h
    rw [h1]
    rfl
theorem KsR.map_put {ws : List (κ × V)} {es : List (κ × Sl)} (r : KsR K fr H ws es) (k : κ) {v : V} {x : Sl} (h : SlR K fr H v x) :
    KsR K fr H (ws.map fun kv => if kv.1 = k then (kv.1, v) else kv) (es.map fun e => if e.1 = k then (e.1, x) else e) := by
  induction r with
  | nil => exact .nil
  | @cons k' u vs y ys a b ih =>
    rw [List.map_cons, List.map_cons]
    by_cases e : k' = k
    · rw [if_pos (show ((k', u) : κ × V).1 = k from e), if_pos (show ((k', y) : κ × Sl).1 = k from e)]
      exact .cons h ih
    · rw [if_neg (show ¬ ((k', u) : κ × V).1 = k from e), if_neg (show ¬ ((k', y) : κ × Sl).1 = k from e)]
      exact .cons a ih
theorem KsR.app {ws us : List (κ × V)} {es ds : List (κ × Sl)} (r : KsR K fr H ws es) (r' : KsR K fr H us ds) : KsR K fr H (ws ++ us) (es ++ ds) := by
  induction r with
  | nil => exact r'
  | cons a b ih => exact .cons a ih
theorem KsR.put {ws : List (κ × V)} {es : List (κ × Sl)} (r : KsR K fr H ws es) (k : κ) {v : V} {x : Sl} (h : SlR K fr H v x) : KsR K fr H (putK ws k v) (putS es k x) := by
  unfold putK putS
  rw [valV_any, valS_any, r.isSome]
  split
  · exact r.map_put k h
  · exact r.app (.cons h .nil)
end
def keyOf : Sl → Option Key
  | .d (.int i) => some (.inl i)
  | .d (.str x) => some (.inr x)
  | _ => none
def keyD : PyData → Option Key
  | .int i => some (.inl i)
  | .str x => some (.inr x)
  | _ => none
def keysD : List PyData → Option (List Key)
  | [] => some []
  | d :: r => (match keyD d, keysD r with
    | some k, some ks => some (k :: ks)
    | _, _ => none)
/-- a tuple as a key -/
def tkeyOf : Sl → Option (List Key)
  | .d (.tuple ds) => keysD ds
  | _ => none
def esD : List (PyData × PyData) → Option (List (Key × Sl))
  | [] => some []
  | (d, e) :: r => (match keyD d, esD r with
    | some k, some ks => some ((k, .d e) :: ks)
    | _, _ => none)
def dictOf (st : Store) : Sl → Option (List (Key × Sl))
  | .o p => (match st p with
    | some (.k es) => some es
    | _ => none)
  | .d (.dict es) => esD es
  | _ => none
def dictTOf (st : Store) : Sl → Option (List (List Key × Sl))
  | .o p => (match st p with
    | some (.kt es) => some es
    | _ => none)
  | _ => none
section
variable {K : PySem.W.Frag} {fr : Fz} {H : Hp} {st : Store}
theorem key_at {v : V} {x : Sl} {k : Key} (r : SlR K fr H v x) (h : keyOf x = some k) : v = kV k := by
  unfold keyOf at h
  split at h
  · cases h
    exact rp_int r
  · cases h
    exact rp_str r
  · cases h
theorem keyD_at {v : V} {x : PyData} {k : Key} (r : Rp K fr H v x) (h : keyD x = some k) : v = kV k := by
  unfold keyD at h
  split at h
  · cases h
    exact rp_int r
  · cases h
    exact rp_str r
  · cases h
theorem keysD_at : ∀ {vs : List V} {ds : List PyData} {ks : List Key}, RpAll K fr H vs ds → keysD ds = some ks → vs = ks.map kV
  | [], [], ks, .nil, h => by
    cases h
    rfl
  | v :: vs, d :: ds, ks, .cons a b, h => by
    unfold keysD at h
    split at h
    · next k ks' h1 h2 =>
      cases h
      rw [List.map_cons, ← keyD_at a h1, ← keysD_at b h2]
    · cases h
theorem esD_at {ws : List (Key × V)} {es : List (PyData × PyData)} (r : RpKs K fr H ws es) : ∀ {ks : List (Key × Sl)}, esD es = some ks → KsR K fr H ws ks := by
  induction ws generalizing es with
  | nil =>
    intro ks h
    cases r
    cases h
    exact .nil
  | cons w ws ih =>
    intro ks h
    cases r with
    | int a b =>
      unfold esD at h
      split at h
      · next k ks' h1 h2 =>
        cases h1
        cases h
        exact .cons a (ih b h2)
      · cases h
    | str a b =>
      unfold esD at h
      split at h
      · next k ks' h1 h2 =>
        cases h1
        cases h
        exact .cons a (ih b h2)
      · cases h
theorem rp_dctv {v : V} {es : List (PyData × PyData)} (h : Rp K fr H v (.dict es)) : ∃ a ws, v = .ref a ∧ H a = some (.dK ws) ∧ RpKs K fr H ws es := by
  cases h with
  | dct h f r => exact ⟨_, _, rfl, h, r⟩
theorem dct_at {x : Sl} {v : V} {es : List (Key × Sl)} (s : StR K fr H st) (r : SlR K fr H v x) (h : dictOf st x = some es) : ∃ a ws, v = .ref a ∧ H a = some (.dK ws) ∧ KsR K fr H ws es := by
  unfold dictOf at h
  split at h
  · next p =>
    split at h
    · next es' hp =>
      cases h
      obtain ⟨_, ws, hw, hr⟩ := s.own p _ hp
      exact ⟨p, ws, r, hw, hr⟩
    · cases h
  · obtain ⟨a, ws, e, h1, h2⟩ := rp_dctv r
    exact ⟨a, ws, e, h1, esD_at h2 h⟩
  · cases h
theorem dctT_at {x : Sl} {v : V} {es : List (List Key × Sl)} (s : StR K fr H st) (r : SlR K fr H v x) (h : dictTOf st x = some es) : ∃ a ws, v = .ref a ∧ H a = some (.dT ws) ∧ KsR K fr H ws es := by
  unfold dictTOf at h
  split at h
  · next p =>
    split at h
    · next es' hp =>
      cases h
      obtain ⟨_, ws, hw, hr⟩ := s.own p _ hp
      exact ⟨p, ws, r, hw, hr⟩
    · cases h
  · cases h
/-- what a dict holds at a key, over data: none where it is no dict, no key -/
def dGetS (st : Store) (x y : Sl) : Option (Option Sl) := match dictOf st x, keyOf y with
  | some es, some k => some (valS es k)
  | _, _ => none
theorem dget_at {x y : Sl} {v u : V} {o : Option Sl} (s : StR K fr H st) (rx : SlR K fr H v x) (ry : SlR K fr H u y) (h : dGetS st x y = some o) :
    ∃ a w, v = .ref a ∧ DGet H a u w ∧ (∀ z, o = some z → ∃ r, w = some r ∧ SlR K fr H r z) ∧ (o = none → w = none) := by
  unfold dGetS at h
  split at h
  · next es k h1 h2 =>
    cases h
    obtain ⟨a, ws, rfl, hw, hr⟩ := dct_at s rx h1
    obtain rfl := key_at ry h2
    exact ⟨a, _, rfl, DGet.k hw, fun z e => hr.val k e, fun e => hr.noval k e⟩
  · cases h
end
section
variable {X : Cx}
def rIxDct : R2 := fun x y H Q => ∃ a v, x = .ref a ∧ DGet H a y (some v) ∧ Q v H
theorem ix_dct (hu : X.A.units + 1 < cLine) : IxR X rIxDct := by
  intro value slice pins s σ H x y v u Q I rx ry h hs
  obtain ⟨a, z, rfl, g, q⟩ := h
  obtain rfl : v = Value.ref a := rx
  exact tail_any (dict_typeIs I g) PySem.F.slot_dict_getitem.lookup (d_getItem hu I g ry fun w' s' I' rw' => ⟨z, H, I', rw', q⟩) hs
def rInDct : R2 := fun y x H Q => ∃ a o, x = .ref a ∧ DGet H a y o ∧ Q (.bl o.isSome) H
def rNinDct : R2 := fun y x H Q => ∃ a o, x = .ref a ∧ DGet H a y o ∧ Q (.bl (!o.isSome)) H
theorem op_inDct (hu : X.A.units + 1 < cLine) : OpR X (compareOp .In) rInDct := by
  intro pins s σ H y x u v Q I ry rx h
  obtain ⟨a, o, rfl, g, q⟩ := h
  obtain rfl : v = Value.ref a := rx
  exact d_in hu I g ry fun s' I' => ⟨.bl o.isSome, H, I', rfl, q⟩
theorem op_ninDct (hu : X.A.units + 1 < cLine) : OpR X (compareOp .NotIn) rNinDct := by
  intro pins s σ H y x u v Q I ry rx h
  obtain ⟨a, o, rfl, g, q⟩ := h
  obtain rfl : v = Value.ref a := rx
  exact d_notIn hu I g ry fun s' I' => ⟨.bl (!o.isSome), H, I', rfl, q⟩
def rSetDct : TSet := fun o i v H Q => ∃ a H', o = .ref a ∧ DPut H a i v H' ∧ Q H'
theorem set_dct (hu : X.A.units + 1 < cLine) : PSet X rSetDct := by
  intro pins s σ H x y v ov iv u Q I rx ry rv h
  obtain ⟨a, H', rfl, g, q⟩ := h
  obtain rfl : ov = Value.ref a := rx
  exact d_setItem hu I g ry rv fun s' I' => ⟨H', I', q⟩
theorem PSet.or {t t' : TSet} (h : PSet X t) (h' : PSet X t') : PSet X (fun o i v H Q => t o i v H Q ∨ t' o i v H Q) := by
  intro pins s σ H x y v ov iv u Q I rx ry rv q
  rcases q with q | q
  · exact h pins s σ H x y v ov iv u Q I rx ry rv q
  · exact h' pins s σ H x y v ov iv u Q I rx ry rv q
end
end DL
namespace DL
open PySem PySem.Spec PyProof.Rows L2
/-- a list that stands by itself (made by the program) -/
def plOf (st : Store) : Sl → Option (List Sl)
  | .d (.list ds) => some (ds.map Sl.d)
  | .o p => (match st p with
    | some (.l xs) => some xs
    | _ => none)
  | _ => none
theorem pl_at {K : PySem.W.Frag} {fr : Fz} {H : Hp} {st : Store} {x : Sl} {v : V} {xs : List Sl} (s : StR K fr H st) (r : SlR K fr H v x) (h : plOf st x = some xs) : ∃ a ws, v = .ref a ∧ H a = some (.lst ws) ∧ SlsR K fr H ws xs := by
  unfold plOf at h
  split at h
  · cases h
    obtain ⟨a, ws, e, h1, h2⟩ := rp_lstp r
    exact ⟨a, ws, e, h1, SlsR.ofRp h2⟩
  · next p =>
    split at h
    · next ys hy =>
      cases h
      obtain ⟨_, ws, hw, hr⟩ := s.own p _ hy
      exact ⟨p, ws, r, hw, hr⟩
    · cases h
  · cases h
/-- + of ints, of tuples, of texts, of lists -/
def fAdd : D2 := fun x y st k => match x, y with
  | .d (.int i), .d (.int j) => k (.d (.int (i + j))) st
  | .d (.tuple ds), .d (.tuple es) => ds.length + es.length ≤ sizeLine ∧ k (.d (.tuple (ds ++ es))) st
  | .d (.str z), .d (.str u) => z.length + u.length ≤ sizeLine ∧ k (.d (.str (z ++ u))) st
  | x, y => (match plOf st x, plOf st y with
    | some xs, some ys => xs.length + ys.length ≤ sizeLine ∧ dNew (xs ++ ys) st k
    | _, _ => False)
def rAddU (K : PySem.W.Frag) : R2 := fun x y H Q => ((rI0 fun i j => .int (i + j)) x y H Q ∨ rCatA K x y H Q) ∨ ((∃ i j, x = .str i ∧ y = .str j ∧ i.length + j.length ≤ sizeLine ∧ Q (.str (i ++ j)) H) ∨ rCat x y H Q)
theorem op_addU {X : Cx} : OpR X (binaryOp .Add) (rAddU X.K) := (op_add.or op_catA).or (op_add_str.or op_cat)
theorem RpAll.app {K : PySem.W.Frag} {fr : Fz} {H : Hp} : ∀ {vs ws : List V} {ds es : List PyData}, RpAll K fr H vs ds → RpAll K fr H ws es → RpAll K fr H (vs ++ ws) (ds ++ es)
  | _, _, _, _, .nil, b => b
  | _, _, _, _, .cons a b, c => .cons a (RpAll.app b c)
theorem RpAll.nilL {K : PySem.W.Frag} {fr : Fz} {H : Hp} {ds : List PyData} (h : RpAll K fr H [] ds) : ds = [] := by
  cases h
  rfl
theorem r2_add {K : PySem.W.Frag} : R2D K (rAddU K) fAdd := fun fr H st x y sx sy k Q s rx ry h q => by
  unfold fAdd at h
  split at h
  · exact .inl (.inl ⟨_, _, rp_int rx, rp_int ry, q.now h s (.int _)⟩)
  · obtain ⟨a, ws, rfl, h1, h2⟩ := rp_tupv rx
    obtain ⟨b, zs, rfl, h3, h4⟩ := rp_tupv ry
    have hl : ws.length + zs.length ≤ sizeLine := by rw [h2.length, h4.length]; exact h.1
    refine .inl (.inr ⟨a, b, ws, zs, rfl, rfl, h1, h3, hl, fun e => ?_, fun _ e => ?_, fun _ _ p n => q.tup s (h2.app h4) h.2 n⟩)
    · subst e
      obtain rfl := h2.nilL
      exact q.now h.2 s (.tup h3 h4)
    · subst e
      obtain rfl := h4.nilL
      have h' := h.2
      rw [List.append_nil] at h'
      exact q.now h' s (.tup h1 h2)
  · exact .inr (.inl ⟨_, _, rp_str rx, rp_str ry, h.1, q.now h.2 s (.str _)⟩)
  · split at h
    · next xs ys hx hy =>
      obtain ⟨a, ws, rfl, h1, h2⟩ := pl_at s rx hx
      obtain ⟨b, zs, rfl, h3, h4⟩ := pl_at s ry hy
      exact .inr (.inr ⟨a, b, ws, zs, rfl, rfl, h1, h3, by rw [h2.length, h4.length]; exact h.1, fun p n => q.lst s (h2.app h4) h.2 n⟩)
    · exact h.elim
/-- * of ints, of a list and an int -/
def fMul : D2 := fun x y st k => match x, y with
  | .d (.int i), .d (.int j) => (CMul i j ∨ CMulW i j) ∧ k (.d (.int (i * j))) st
  | .d (.tuple ds), .d (.int j) => (ds ≠ [] ∧ 0 ≤ j ∧ j ≤ 1000 ∧ ds.length ≤ 1000) ∧ k (.d (.tuple (List.replicate j.toNat ds).flatten)) st
  | x, .d (.int j) => (match plOf st x with
    | some xs => (-(2 ^ 63) ≤ j ∧ j < 2 ^ 63 ∧ xs.length * j.toNat ≤ sizeLine) ∧ dNew (List.replicate j.toNat xs).flatten st k
    | _ => False)
  | _, _ => False
def rMulU (K : PySem.W.Frag) : R2 := fun x y H Q => ((rI CMul fun i j => .int (i * j)) x y H Q ∨ (rI CMulW fun i j => .int (i * j)) x y H Q) ∨ (rRep x y H Q ∨ rRepA K x y H Q)
theorem op_mulU {X : Cx} : OpR X (binaryOp .Mult) (rMulU X.K) := (op_mul.or op_mulW).or (op_rep.or op_repA)
theorem SlsR.rep {K : PySem.W.Frag} {fr : Fz} {H : Hp} {vs : List V} {xs : List Sl} (h : SlsR K fr H vs xs) : ∀ n : Nat, SlsR K fr H (List.replicate n vs).flatten (List.replicate n xs).flatten
  | 0 => .nil
  | n + 1 => by
    rw [List.replicate_succ, List.replicate_succ, List.flatten_cons, List.flatten_cons]
    exact h.app (SlsR.rep h n)
end DL
namespace DL
open PySem PySem.Spec PyProof.Rows L2
theorem RpAll.rep {K : PySem.W.Frag} {fr : Fz} {H : Hp} {vs : List V} {ds : List PyData} (h : RpAll K fr H vs ds) : ∀ n : Nat, RpAll K fr H (List.replicate n vs).flatten (List.replicate n ds).flatten
  | 0 => .nil
  | n + 1 => by
    rw [List.replicate_succ, List.replicate_succ, List.flatten_cons, List.flatten_cons]
    exact h.app (RpAll.rep h n)
theorem r2_mul {K : PySem.W.Frag} : R2D K (rMulU K) fMul := fun fr H st x y sx sy k Q s rx ry h q => by
  unfold fMul at h
  split at h
  · rcases h.1 with c | c
    · exact .inl (.inl ⟨_, _, rp_int rx, rp_int ry, c, q.now h.2 s (.int _)⟩)
    · exact .inl (.inr ⟨_, _, rp_int rx, rp_int ry, c, q.now h.2 s (.int _)⟩)
  · obtain ⟨a, ws, rfl, h1, h2⟩ := rp_tupv rx
    obtain ⟨⟨g0, g1, g2, g3⟩, h⟩ := h
    have hl := h2.length
    refine .inr (.inr ⟨a, _, ws, rfl, rp_int ry, h1, fun z => ?_, g1, g2, by rw [hl]; exact g3, fun z => ?_, fun p n => q.tup s (RpAll.rep h2 _) h n⟩)
    · rw [z] at hl
      exact g0 (List.eq_nil_of_length_eq_zero hl.symm)
    · subst z
      rw [show (List.replicate (1 : Int).toNat _).flatten = _ from List.append_nil _] at h
      exact q.now h s rx
  · split at h
    · next xs hx =>
      obtain ⟨a, ws, rfl, h1, h2⟩ := pl_at s rx hx
      exact .inr (.inl ⟨a, _, ws, rfl, rp_int ry, h1, h.1.1, h.1.2.1, by rw [h2.length]; exact h.1.2.2, fun p n => q.lst s (h2.rep _) h.2 n⟩)
    · exact h.elim
  · exact h.elim
def fSub : D2 := fun x y st k => match x, y with
  | .d (.int i), .d (.int j) => k (.d (.int (i - j))) st
  | _, _ => False
def fDiv : D2 := fun x y st k => match x, y with
  | .d (.int i), .d (.int j) => CDivW i j ∧ k (.d (.int (i / j))) st
  | _, _ => False
def fMod : D2 := fun x y st k => match x, y with
  | .d (.int i), .d (.int j) => 0 < j ∧ k (.d (.int (i % j))) st
  | _, _ => False
def fPow : D2 := fun x y st k => match x, y with
  | .d (.int i), .d (.int j) => CPow i j ∧ k (.d (.int (i ^ j.toNat))) st
  | _, _ => False
def fLt : D2 := fun x y st k => match x, y with
  | .d (.int i), .d (.int j) => k (.d (.bool (decide (i < j)))) st
  | _, _ => False
def fLe : D2 := fun x y st k => match x, y with
  | .d (.int i), .d (.int j) => k (.d (.bool (decide (i ≤ j)))) st
  | _, _ => False
def fGt : D2 := fun x y st k => match x, y with
  | .d (.int i), .d (.int j) => k (.d (.bool (decide (j < i)))) st
  | _, _ => False
def fGe : D2 := fun x y st k => match x, y with
  | .d (.int i), .d (.int j) => k (.d (.bool (decide (j ≤ i)))) st
  | _, _ => False
theorem r2_sub {K : PySem.W.Frag} : R2D K (rI0 fun i j => .int (i - j)) fSub := fun fr H st x y sx sy k Q s rx ry h q => r2_I0 (g' := _) (fun _ _ _ _ => .int _) fr H st x y sx sy k Q s rx ry h q
theorem r2_div {K : PySem.W.Frag} : R2D K (rI CDivW fun i j => .int (i / j)) fDiv := fun fr H st x y sx sy k Q s rx ry h q => r2_I (g' := _) (fun _ _ _ _ => .int _) fr H st x y sx sy k Q s rx ry h q
theorem r2_mod {K : PySem.W.Frag} : R2D K (rI (fun _ j => 0 < j) fun i j => .int (i % j)) fMod := fun fr H st x y sx sy k Q s rx ry h q => r2_I (g' := _) (fun _ _ _ _ => .int _) fr H st x y sx sy k Q s rx ry h q
theorem r2_pow {K : PySem.W.Frag} : R2D K (rI CPow fun i j => .int (i ^ j.toNat)) fPow := fun fr H st x y sx sy k Q s rx ry h q => r2_I (g' := _) (fun _ _ _ _ => .int _) fr H st x y sx sy k Q s rx ry h q
theorem r2_lt {K : PySem.W.Frag} : R2D K (rI0 fun i j => .bl (decide (i < j))) fLt := fun fr H st x y sx sy k Q s rx ry h q => r2_I0 (g' := _) (fun _ _ _ _ => .bl _) fr H st x y sx sy k Q s rx ry h q
theorem r2_le {K : PySem.W.Frag} : R2D K (rI0 fun i j => .bl (decide (i ≤ j))) fLe := fun fr H st x y sx sy k Q s rx ry h q => r2_I0 (g' := _) (fun _ _ _ _ => .bl _) fr H st x y sx sy k Q s rx ry h q
theorem r2_gt {K : PySem.W.Frag} : R2D K (rI0 fun i j => .bl (decide (j < i))) fGt := fun fr H st x y sx sy k Q s rx ry h q => r2_I0 (g' := _) (fun _ _ _ _ => .bl _) fr H st x y sx sy k Q s rx ry h q
theorem r2_ge {K : PySem.W.Frag} : R2D K (rI0 fun i j => .bl (decide (j ≤ i))) fGe := fun fr H st x y sx sy k Q s rx ry h q => r2_I0 (g' := _) (fun _ _ _ _ => .bl _) fr H st x y sx sy k Q s rx ry h q
/-! ### == and != of data -/
def datOf (st : Store) : Sl → Option PyData
  | .d x => some x
  | .o p => (match st p with
    | some (.l xs) => (match allD xs with
      | some ds => some (.list ds)
      | none => none)
    | _ => none)
  | .r ds => some (.list ds)
  | _ => none
mutual
theorem rp_dp {K : PySem.W.Frag} {fr : Fz} {H : Hp} : ∀ {v : V} {d : PyData}, d.canLay0 = true → Rp K fr H v d → Dp K H v d
  | _, _, _, .non => .non
  | _, _, _, .bl b => .bl b
  | _, _, _, .int i => .int i
  | _, _, _, .str x => .str x
  | _, _, c, .lst h f r => .lst (SqL.of h) (rp_dps (by simpa [PyData.canLay0] using c) r)
  | _, _, c, .tup h r => .tup h (rp_dps (by simpa [PyData.canLay0] using c) r)
  | _, _, c, .dct _ _ _ => by simp [PyData.canLay0] at c
theorem rp_dps {K : PySem.W.Frag} {fr : Fz} {H : Hp} : ∀ {v : List V} {d : List PyData}, PyData.canLayAll0 d = true → RpAll K fr H v d → DpAll K H v d
  | _, _, _, .nil => .nil
  | _, _, c, .cons a b => by
    have c' := Bool.and_eq_true_iff.mp (show (_ && _) = true by simpa [PyData.canLayAll0] using c)
    exact .cons (rp_dp c'.1 a) (rp_dps c'.2 b)
end
theorem dat_dp {K : PySem.W.Frag} {fr : Fz} {H : Hp} {st : Store} {x : Sl} {v : V} {d : PyData} (c : d.canLay0 = true) (s : StR K fr H st) (r : SlR K fr H v x) (h : datOf st x = some d) : Dp K H v d := by
  unfold datOf at h
  split at h
  · cases h
    exact rp_dp c r
  · next p =>
    obtain rfl : v = .ref p := r
    split at h
    · next xs hx =>
      split at h
      · next ds hd =>
        cases h
        obtain ⟨_, ws, hw, hr⟩ := s.own p _ hx
        rw [allD_eq hd] at hr
        exact .lst (SqL.of hw) (rp_dps (by simpa [PyData.canLay0] using c) hr.toRp)
      · cases h
    · cases h
  · cases h
    obtain ⟨a, ws, rfl, h1, h2⟩ := rol_v r
    exact .lst h1 (rp_dps (by simpa [PyData.canLay0] using c) h2)
  · cases h
theorem lay_of {d : PyData} (h : SeqAt.shaped d = true) : d.canLay0 = true := by
  unfold SeqAt.shaped at h
  exact (Bool.and_eq_true_iff.mp h).1
def fEq (neg : Bool) : D2 := fun x y st k => match x, y with
  | .d (.int i), .d (.int j) => (match neg with
    | true => k (.d (.bool (!decide (i = j)))) st
    | false => k (.d (.bool (decide (i = j)))) st)
  | .d (.str i), .d (.str j) => (match neg with
    | true => k (.d (.bool (!decide (i = j)))) st
    | false => k (.d (.bool (decide (i = j)))) st)
  | x, y => (match datOf st x, datOf st y with
    | some d, some e => (SeqAt.shaped d = true ∧ SeqAt.shaped e = true) ∧ (match neg with
      | true => k (.d (.bool (!PyData.eqv d e))) st
      | false => k (.d (.bool (PyData.eqv d e))) st)
    | _, _ => False)
theorem dec_vi {i j : Int} : decide (V.int i = V.int j) = decide (i = j) := by
  by_cases h : i = j
  · rw [h]
    simp
  · rw [decide_eq_false h, decide_eq_false fun z => h (V.int.inj z)]
theorem dec_vs {i j : Str} : decide (V.str i = V.str j) = decide (i = j) := by
  by_cases h : i = j
  · rw [h]
    simp
  · rw [decide_eq_false h, decide_eq_false fun z => h (V.str.inj z)]
def rEqU (K : PySem.W.Frag) : R2 := fun x y H Q => rEq x y H Q ∨ rEqD K x y H Q
def rNeU (K : PySem.W.Frag) : R2 := fun x y H Q => rNe x y H Q ∨ rNeD K x y H Q
theorem op_eqU {X : Cx} (hu : X.A.units + 64 < cLine) : OpR X (compareOp .Eq) (rEqU X.K) := op_eq.or (op_eqD hu)
theorem op_neU {X : Cx} (hu : X.A.units + 64 < cLine) : OpR X (compareOp .NotEq) (rNeU X.K) := op_ne.or (op_neD hu)
theorem r2_eq {K : PySem.W.Frag} : R2D K (rEqU K) (fEq false) := fun fr H st x y sx sy k Q s rx ry h q => by
  unfold fEq at h
  split at h
  · refine .inl ⟨by rw [rp_int rx, rp_int ry]; rfl, ?_⟩
    rw [rp_int rx, rp_int ry, dec_vi]
    exact q.now h s (.bl _)
  · refine .inl ⟨by rw [rp_str rx, rp_str ry]; rfl, ?_⟩
    rw [rp_str rx, rp_str ry, dec_vs]
    exact q.now h s (.bl _)
  · split at h
    · next d e hd he => exact .inr ⟨d, e, dat_dp (lay_of h.1.1) s rx hd, dat_dp (lay_of h.1.2) s ry he, h.1.1, h.1.2, q.now h.2 s (.bl _)⟩
    · exact h.elim
theorem r2_ne {K : PySem.W.Frag} : R2D K (rNeU K) (fEq true) := fun fr H st x y sx sy k Q s rx ry h q => by
  unfold fEq at h
  split at h
  · refine .inl ⟨by rw [rp_int rx, rp_int ry]; rfl, ?_⟩
    rw [rp_int rx, rp_int ry, dec_vi]
    exact q.now h s (.bl _)
  · refine .inl ⟨by rw [rp_str rx, rp_str ry]; rfl, ?_⟩
    rw [rp_str rx, rp_str ry, dec_vs]
    exact q.now h s (.bl _)
  · split at h
    · next d e hd he => exact .inr ⟨d, e, dat_dp (lay_of h.1.1) s rx hd, dat_dp (lay_of h.1.2) s ry he, h.1.1, h.1.2, q.now h.2 s (.bl _)⟩
    · exact h.elim
/-! ### in, not in: flat things in a list or tuple -/
def flatD : PyData → Option V
  | .none => some .non
  | .bool b => some (.bl b)
  | .int i => some (.int i)
  | .str x => some (.str x)
  | _ => none
def flatDs : List Sl → Option (List V)
  | [] => some []
  | .d x :: r => (match flatD x, flatDs r with
    | some v, some vs => some (v :: vs)
    | _, _ => none)
  | _ :: _ => none
theorem flat_rp {K : PySem.W.Frag} {fr : Fz} {H : Hp} {d : PyData} {v u : V} (h : flatD d = some u) (r : Rp K fr H v d) : v = u ∧ flatV u = true := by
  cases r <;> first
    | (cases h; exact ⟨rfl, rfl⟩)
    | cases h
theorem flat_sls {K : PySem.W.Frag} {fr : Fz} {H : Hp} : ∀ {xs : List Sl} {vs us : List V}, flatDs xs = some us → SlsR K fr H vs xs → vs = us ∧ us.all flatV = true
  | [], _, _, h, .nil => by
    cases h
    exact ⟨rfl, rfl⟩
  | .d x :: r, _, _, h, .cons a b => by
    unfold flatDs at h
    split at h
    · next v vs h1 h2 =>
      cases h
      obtain ⟨e1, f1⟩ := flat_rp h1 a
      obtain ⟨e2, f2⟩ := flat_sls h2 b
      exact ⟨by rw [e1, e2], by rw [List.all_cons, f1, f2]; rfl⟩
    · cases h
  | .o _ :: _, _, _, h, _ => by cases h
  | .v _ :: _, _, _, h, _ => by cases h
  | .r _ :: _, _, _, h, _ => by cases h
  | .tn :: _, _, _, h, _ => by cases h
  | .tc _ _ :: _, _, _, h, _ => by cases h
def fIn (neg : Bool) : D2 := fun x y st k => match seqOf st y with
  | some ys => (match x with
    | .d d => (match flatD d, flatDs ys with
      | some v, some vs => (match neg with
        | true => k (.d (.bool (!inV v vs))) st
        | false => k (.d (.bool (inV v vs))) st)
      | _, _ => False)
    | _ => False)
  | none => (match dGetS st y x with
    | some o => (match neg with
      | true => k (.d (.bool (!o.isSome))) st
      | false => k (.d (.bool o.isSome)) st)
    | none => False)
def rInU (K : PySem.W.Frag) (neg : Bool) : R2 := fun x y H Q => rIn K neg x y H Q ∨ (match neg with
  | true => rNinDct x y H Q
  | false => rInDct x y H Q)
theorem op_inU {X : Cx} (hu : X.A.units + 1 < cLine) : OpR X (compareOp .In) (rInU X.K false) := op_in_seq.or (op_inDct hu)
theorem op_notInU {X : Cx} (hu : X.A.units + 1 < cLine) : OpR X (compareOp .NotIn) (rInU X.K true) := op_notIn_seq.or (op_ninDct hu)
theorem r2_in {K : PySem.W.Frag} (neg : Bool) : R2D K (rInU K neg) (fIn neg) := fun fr H st x y sx sy k Q s rx ry h q => by
  unfold fIn at h
  split at h
  · next ys hy =>
    split at h
    · next d =>
      split at h
      · next v vs h1 h2 =>
        obtain ⟨a, ws, rfl, hs, hr⟩ := seq_at s ry hy
        obtain ⟨e1, f1⟩ := flat_rp h1 rx
        obtain ⟨e2, f2⟩ := flat_sls h2 hr
        subst e1 e2
        refine .inl ⟨a, _, rfl, hs, f1, f2, ?_⟩
        cases neg with
        | true => exact q.now h s (.bl _)
        | false => exact q.now h s (.bl _)
      · exact h.elim
    · exact h.elim
  · split at h
    · next o ho =>
      obtain ⟨a, w, rfl, g, g1, g2⟩ := dget_at s ry rx ho
      have e : w.isSome = o.isSome := by
        cases o with
        | none => rw [g2 rfl]; rfl
        | some z =>
          obtain ⟨r, h1, _⟩ := g1 z rfl
          rw [h1]
          rfl
      refine .inr ?_
      cases neg with
      | true => exact ⟨a, w, rfl, g, by rw [e]; exact q.now h s (.bl _)⟩
      | false => exact ⟨a, w, rfl, g, by rw [e]; exact q.now h s (.bl _)⟩
    · exact h.elim
/-- is None, is not None -/
def isN : Sl → Bool
  | .d .none => true
  | _ => false
def fIsN (neg : Bool) : D2 := fun x y st k => match y with
  | .d .none => (∀ u, x ≠ .v u) ∧ (match neg with
    | true => k (.d (.bool (!isN x))) st
    | false => k (.d (.bool (isN x))) st)
  | _ => False
theorem isN_rp {K : PySem.W.Frag} {fr : Fz} {H : Hp} {x : Sl} {v : V} (r : SlR K fr H v x) (h : ∀ u, x ≠ .v u) : decide (v = .non) = isN x := by
  cases x with
  | d d =>
    have r' : Rp K fr H v d := r
    cases r' <;> rfl
  | o p =>
    obtain rfl : v = .ref p := r
    rfl
  | v u => exact absurd rfl (h u)
  | r ds =>
    obtain ⟨a, ws, rfl, _⟩ := r
    rfl
  | tn =>
    obtain ⟨a, rfl, _⟩ := r
    rfl
  | tc a b =>
    obtain ⟨a, _, _, rfl, _⟩ := r
    rfl
theorem r2_isN {K : PySem.W.Frag} : R2D K (fun x y H Q => y = .non ∧ Q (.bl (decide (x = .non))) H) (fIsN false) := fun fr H st x y sx sy k Q s rx ry h q => by
  unfold fIsN at h
  split at h
  · exact ⟨rp_none ry, q.now h.2 s (by rw [isN_rp rx h.1]; exact .bl _)⟩
  · exact h.elim
theorem r2_notN {K : PySem.W.Frag} : R2D K (fun x y H Q => y = .non ∧ Q (.bl (!decide (x = .non))) H) (fIsN true) := fun fr H st x y sx sy k Q s rx ry h q => by
  unfold fIsN at h
  split at h
  · exact ⟨rp_none ry, q.now h.2 s (by rw [isN_rp rx h.1]; exact .bl _)⟩
  · exact h.elim
/-! ### x[i], x[a:b] -/
def fIx : D2 := fun x y st k => match x, y with
  | .d (.str z), .d (.int i) => z.length ≤ sizeLine ∧ (match atI z.cps.toList i with
    | some c => k (.d (.str ⟨#[c]⟩)) st
    | none => False)
  | x, y => (match seqOf st x with
    | some xs => (match y with
      | .d (.int i) => (match atI xs i with
        | some z => k z st
        | none => False)
      | _ => False)
    | none => (match dGetS st x y with
      | some (some z) => k z st
      | _ => False))
theorem sls_atI {K : PySem.W.Frag} {fr : Fz} {H : Hp} {vs : List V} {xs : List Sl} {i : Int} {x : Sl} (r : SlsR K fr H vs xs) (h : atI xs i = some x) : ∃ v, atI vs i = some v ∧ SlR K fr H v x := by
  have h' : ((ixN xs.length i).bind fun j => xs[j]?) = some x := h
  show ∃ v, ((ixN vs.length i).bind fun j => vs[j]?) = some v ∧ _
  rw [r.length]
  cases e : ixN xs.length i with
  | none =>
    rw [e] at h'
    cases h'
  | some j =>
    rw [e] at h'
    exact r.get h'
def rIxU (K : PySem.W.Frag) : R2 := fun x y H Q => rIx K x y H Q ∨ rIxDct x y H Q
theorem r2_ix {K : PySem.W.Frag} : R2D K (rIxU K) fIx := fun fr H st x y sx sy k Q s rx ry h q => by
  unfold fIx at h
  split at h
  · next z i =>
    have h2 := h.2
    split at h2
    · next c hc => exact .inl (.inr (.inr ⟨z, i, c, rp_str rx, rp_int ry, h.1, hc, q.now h2 s (.str _)⟩))
    · exact h2.elim
  · split at h
    · next xs hx =>
      split at h
      · next i =>
        split at h
        · next u hu =>
          obtain ⟨a, ws, rfl, hs, hr⟩ := seq_at s rx hx
          obtain ⟨v, hv, rv⟩ := sls_atI hr hu
          rcases hs with hs | hs
          · exact .inl (.inl ⟨a, ws, _, v, rfl, rp_int ry, hs, hv, q.now h s rv⟩)
          · exact .inl (.inr (.inl ⟨a, ws, _, v, rfl, rp_int ry, hs, hv, q.now h s rv⟩))
        · exact h.elim
      · exact h.elim
    · split at h
      · next z hz =>
        obtain ⟨a, w, rfl, g, g1, _⟩ := dget_at s rx ry hz
        obtain ⟨r, rfl, rr⟩ := g1 z rfl
        exact .inr ⟨a, r, rfl, g, q.now h s rr⟩
      · exact h.elim
section
variable {X : Cx} {pos : Pos} {a b c : Expr} {ta tb tc : DTE}
theorem d_ix (hu : X.A.units + 1 < cLine) (ha : DE X a ta) (hb : DE X b tb) (hs : PlainIx b := by exact fun _ _ => rfl) : DE X (.Subscript a b pos) (dOp fIx ta tb) := pe_imp (pe_ix (ix_seq.or (ix_dct hu)) ha hb hs) fun _ _ _ => le_op r2_ix
theorem d_add (ha : DE X a ta) (hb : DE X b tb) : DE X (.BinOp a .Add b pos) (dOp fAdd ta tb) := d_op op_addU r2_add ha hb
theorem d_sub (ha : DE X a ta) (hb : DE X b tb) : DE X (.BinOp a .Sub b pos) (dOp fSub ta tb) := d_op op_sub r2_sub ha hb
theorem d_mul (ha : DE X a ta) (hb : DE X b tb) : DE X (.BinOp a .Mult b pos) (dOp fMul ta tb) := d_op op_mulU r2_mul ha hb
theorem d_div (ha : DE X a ta) (hb : DE X b tb) : DE X (.BinOp a .FloorDiv b pos) (dOp fDiv ta tb) := d_op op_fdivW r2_div ha hb
theorem d_mod (ha : DE X a ta) (hb : DE X b tb) : DE X (.BinOp a .Mod b pos) (dOp fMod ta tb) := d_op op_mod r2_mod ha hb
theorem d_pow (ha : DE X a ta) (hb : DE X b tb) : DE X (.BinOp a .Pow b pos) (dOp fPow ta tb) := d_op op_pow r2_pow ha hb
def fNeg : D1 := fun x st k => match x with
  | .d (.int i) => k (.d (.int (-i))) st
  | _ => False
theorem d_neg (ha : DE X a ta) : DE X (.UnaryOp .USub a pos) (dUn fNeg ta) := d_un un_neg (fun fr H st x sx k Q s rx h q => by
  unfold fNeg at h
  split at h
  · exact ⟨_, rp_int rx, q.now h s (.int _)⟩
  · exact h.elim) ha
end
/-! slices -/
def cutL (xs : List Sl) (lo hi : Option Int) : List Sl := (xs.drop (HT.sIx xs.length 0 lo)).take (HT.sIx xs.length xs.length hi - HT.sIx xs.length 0 lo)
theorem sls_cut {K : PySem.W.Frag} {fr : Fz} {H : Hp} {vs : List V} {xs : List Sl} (r : SlsR K fr H vs xs) (lo hi : Option Int) : SlsR K fr H (cutV vs lo hi) (cutL xs lo hi) := by
  unfold cutV cutL
  rw [r.length]
  exact (r.off _).cut _
abbrev DTO := Sls → Store → (Option Int → Store → Prop) → Prop
def LO (K : PySem.W.Frag) (t : DTO) : TO := fun σ H Q => ∃ fr ρ st k, Wd K fr H σ ρ st ∧ t ρ st k ∧ ∀ o st' fr' H', k o st' → Ext fr H st fr' H' st' → StR K fr' H' st' → Q o H'
abbrev DO (X : Cx) (e : Option Expr) (t : DTO) : Prop := PO X e (LO X.K t)
def dNoP : DTO := fun _ st k => k none st
def dPt (te : DTE) : DTO := fun ρ st k => te ρ st fun x st1 => match x with
  | .d (.int i) => k (some i) st1
  | _ => False
theorem po_imp {X : Cx} {e : Option Expr} {t t' : TO} (h : PO X e t) (i : ∀ σ H Q, t' σ H Q → t σ H Q) : PO X e t' := ⟨fun pins s σ H Q I q => h.run pins s σ H Q I (i _ _ _ q)⟩
theorem o_none {X : Cx} : DO X none dNoP := po_imp po_none fun σ H Q ⟨fr, ρ, st, k, w, h, q⟩ => q _ _ _ _ h (Ext.refl _ _ _) w.sto
theorem o_some {X : Cx} {e : Expr} {te : DTE} (he : DE X e te) : DO X (some e) (dPt te) := po_imp (po_some he) fun σ H Q ⟨fr, ρ, st, k, w, h, q⟩ =>
  ⟨fr, ρ, st, _, w, h, fun x st1 fr1 H1 v k1 e1 s1 r1 => by
    split at k1
    · exact ⟨_, rp_int r1, q _ _ _ _ k1 e1 s1⟩
    · exact k1.elim⟩
/-- x[lo:hi]: of a list a new list, of a tuple a tuple -/
def dSl (te : DTE) (lo hi : DTO) : DTE := fun ρ st k => te ρ st fun x st1 => lo ρ st1 fun l st2 => hi ρ st2 fun h st3 => match x with
  | .d (.tuple ds) => (match allD (cutL (ds.map Sl.d) l h) with
    | some es => k (.d (.tuple es)) st3
    | none => False)
  | .d (.str z) => z.length ≤ sizeLine ∧ k (.d (.str (cutS z l h))) st3
  | x => (match lstOf st3 x with
    | some xs => dNew (cutL xs l h) st3 k
    | none => False)
def rSlU (K : PySem.W.Frag) : V → Option Int → Option Int → Hp → VK → Prop := fun x lo hi H Q => (rSlL K x lo hi H Q ∨ rSlA K x lo hi H Q) ∨ rSlS x lo hi H Q
theorem cut_all {xs : List Sl} {lo hi : Option Int} (h : HT.sIx xs.length 0 lo = 0 ∧ HT.sIx xs.length xs.length hi = xs.length) : cutL xs lo hi = xs := by
  unfold cutL
  rw [h.1, h.2, List.drop_zero, Nat.sub_zero, List.take_length]
theorem d_sl {X : Cx} {e : Expr} {lo hi : Option Expr} {te : DTE} {tl th : DTO} {p2 pos : Pos} (he : DE X e te) (hl : DO X lo tl) (hh : DO X hi th) : DE X (.Subscript e (.Slice lo hi none p2) pos) (dSl te tl th) :=
  pe_imp (pe_slice ((sl_list.or sl_tupA).or sl_str) he hl hh) fun σ H Q h1 => by
    obtain ⟨fr, ρ, st, k, w, h, q⟩ := h1
    refine ⟨fr, ρ, st, _, w, h, fun x st1 fr1 H1 v k1 e1 s1 r1 => ?_⟩
    refine ⟨fr1, ρ, st1, _, w.on e1 s1, k1, fun l st2 fr2 H2 k2 e2 s2 => ?_⟩
    refine ⟨fr2, ρ, st2, _, (w.on e1 s1).on e2 s2, k2, fun u st3 fr3 H3 k3 e3 s3 => ?_⟩
    have e13 : Ext fr H st fr3 H3 st3 := (e1.trans e2).trans e3
    have r3 : SlR X.K fr3 H3 v x := r1.ex s1.ow (e2.trans e3)
    have q3 := q.at e13
    split at k3
    · next ds =>
      split at k3
      · next es hes =>
        obtain ⟨a, ws, rfl, h1, h2⟩ := rp_tupv r3
        have hc := sls_cut (SlsR.ofRp h2) l u
        have hl : (ds.map Sl.d).length = ws.length := by rw [List.length_map, h2.length]
        refine .inl (.inr ⟨a, ws, rfl, h1, fun c => ?_, fun c p n => ?_⟩)
        · rw [← hl] at c
          have e := cut_all c
          rw [allD_eq hes] at e
          have e' : es = ds := List.map_inj_right (fun _ _ z => by cases z; rfl) |>.mp e
          subst e'
          exact q3.now k3 s3 (.tup h1 h2)
        · rw [allD_eq hes] at hc
          exact q3.tup s3 hc.toRp k3 n
      · exact k3.elim
    · exact .inr ⟨_, rp_str r3, k3.1, q3.now k3.2 s3 (.str _)⟩
    · split at k3
      · next xs hx =>
        obtain ⟨a, ws, rfl, hs, hr⟩ := lst_at s3 r3 hx
        exact .inl (.inl ⟨a, ws, rfl, hs, fun p n => q3.lst s3 (sls_cut hr l u) k3 n⟩)
      · exact k3.elim
end DL
namespace DL
open PySem PySem.Spec PyProof.Rows L2
/-! ### built-in functions and classes, called -/
def dCB (f : DL1) (ta : DTA) : DTE := fun ρ st k => ta ρ st fun xs st1 => f xs st1 k
theorem le_cb {K : PySem.W.Frag} {r : List V → Hp → VK → Prop} {f : DL1} {ta : DTA} (h : RLD K r f) {σ : L2.St} {H : Hp} {Q : VK} : LE K (dCB f ta) σ H Q → tCB r (LA K ta) σ H Q := fun ⟨fr, ρ, st, k, w, h1, q⟩ =>
  ⟨fr, ρ, st, _, w, h1, fun xs st1 fr1 H1 vs k1 e1 s1 r1 => h fr1 H1 st1 vs xs k Q s1 r1 k1 (q.at e1)⟩
section
variable {X : Cx} {x : Str} {p pos : Pos} {e : Expr} {es : List Expr} {t : DTA} {id T : String} {r : List V → Hp → VK → Prop} {f : DL1}
theorem d_callB (hc : CallR X (.builtin id) r) (hf : RLD X.K r f) (hm : X.mg x = none) (hv : bootBuiltins x = some (.builtin id)) (ha : DA X (e :: es) t) (hg : Gl X x := by rfl) (hn : x ≠ "__name__" := by decide) (hdb : (x == ("__debug__" : Str)) = false := by decide)
    (he : starEach (e :: es) X.env = (false, eval e X.env) :: starEach es X.env := by rfl) (hpl : (backTo pos (starEach es X.env)).any (·.1) = false := by rfl) : DE X (.Call (.Name x p) (e :: es) [] pos) (dCB f t) :=
  pe_imp (pe_callB hc hg hm hv ha hn hdb he hpl) fun _ _ _ => le_cb hf
theorem d_callT (hc : CallR X (.type T) r) (hf : RLD X.K r f) (hm : X.mg x = none) (hv : bootBuiltins x = some (.type T)) (ha : DA X (e :: es) t) (hg : Gl X x := by rfl) (hn : x ≠ "__name__" := by decide) (hdb : (x == ("__debug__" : Str)) = false := by decide)
    (he : starEach (e :: es) X.env = (false, eval e X.env) :: starEach es X.env := by rfl) (hpl : (backTo pos (starEach es X.env)).any (·.1) = false := by rfl) : DE X (.Call (.Name x p) (e :: es) [] pos) (dCB f t) :=
  pe_imp (pe_callTy hc hg hm hv ha hn hdb he hpl) fun _ _ _ => le_cb hf
end
theorem sls1 {K : PySem.W.Frag} {fr : Fz} {H : Hp} {vs : List V} {x : Sl} (h : SlsR K fr H vs [x]) : ∃ v, vs = [v] ∧ SlR K fr H v x := by
  cases h with
  | cons a b =>
    cases b
    exact ⟨_, rfl, a⟩
theorem sls2 {K : PySem.W.Frag} {fr : Fz} {H : Hp} {vs : List V} {x y : Sl} (h : SlsR K fr H vs [x, y]) : ∃ v u, vs = [v, u] ∧ SlR K fr H v x ∧ SlR K fr H u y := by
  cases h with
  | cons a b =>
    obtain ⟨u, rfl, c⟩ := sls1 b
    exact ⟨_, _, rfl, a, c⟩
/-- len -/
def fLen : DL1 := fun xs st k => match xs with
  | [.d (.str z)] => z.length ≤ sizeLine ∧ k (.d (.int z.length)) st
  | [x] => (match seqOf st x with
    | some ys => k (.d (.int ys.length)) st
    | none => False)
  | _ => False
def rLenU (K : PySem.W.Frag) : List V → Hp → VK → Prop := fun xs H Q => (∃ p ys, xs = [.ref p] ∧ (SqL K H p ys ∨ SqT K H p ys) ∧ Q (.int ys.length) H) ∨ ∃ z, xs = [.str z] ∧ z.length ≤ sizeLine ∧ Q (.int z.length) H
theorem call_lenU {X : Cx} : CallR X (.builtin "len") (rLenU X.K) := call_len_seq.or call_len_str
theorem rl_len {K : PySem.W.Frag} : RLD K (rLenU K) fLen := fun fr H st xs sxs k Q s rx h q => by
  unfold fLen at h
  split at h
  · obtain ⟨v, rfl, r⟩ := sls1 rx
    exact .inr ⟨_, by rw [rp_str r], h.1, q.now h.2 s (.int _)⟩
  · obtain ⟨v, rfl, r⟩ := sls1 rx
    split at h
    · next ys hy =>
      obtain ⟨a, ws, rfl, hs, hr⟩ := seq_at s r hy
      exact .inl ⟨a, ws, rfl, hs, by rw [hr.length]; exact q.now h s (.int _)⟩
    · exact h.elim
  · exact h.elim
/-- list(x) of a list or tuple -/
def fList : DL1 := fun xs st k => match xs with
  | [x] => (match seqOf st x with
    | some ys => dNew ys st k
    | none => False)
  | _ => False
theorem rl_list {K : PySem.W.Frag} : RLD K (fun xs H Q => ∃ p ys, xs = [.ref p] ∧ (SqL K H p ys ∨ SqT K H p ys) ∧ ∀ l, H l = none → Q (.ref l) (upd H l (.lst ys))) fList := fun fr H st xs sxs k Q s rx h q => by
  unfold fList at h
  split at h
  · obtain ⟨v, rfl, r⟩ := sls1 rx
    split at h
    · next ys hy =>
      obtain ⟨a, ws, rfl, hs, hr⟩ := seq_at s r hy
      exact ⟨a, ws, rfl, hs, fun l n => q.lst s hr h n⟩
    · exact h.elim
  · exact h.elim
/-- tuple(x) of a list of data, of a tuple -/
def fTuple : DL1 := fun xs st k => match xs with
  | [.d (.tuple ds)] => k (.d (.tuple ds)) st
  | [x] => (match lstOf st x with
    | some ys => (match allD ys with
      | some ds => k (.d (.tuple ds)) st
      | none => False)
    | none => False)
  | _ => False
theorem rl_tuple {K : PySem.W.Frag} : RLD K (fun xs H Q => ∃ p ys, xs = [.ref p] ∧ ((SqL K H p ys ∧ ∀ l, H l = none → Q (.ref l) (upd H l (.tup ys))) ∨ (SqT K H p ys ∧ Q (.ref p) H))) fTuple := fun fr H st xs sxs k Q s rx h q => by
  unfold fTuple at h
  split at h
  · obtain ⟨v, rfl, r⟩ := sls1 rx
    obtain ⟨a, ws, rfl, h1, h2⟩ := rp_tupv r
    exact ⟨a, ws, rfl, .inr ⟨h1, q.now h s (.tup h1 h2)⟩⟩
  · obtain ⟨v, rfl, r⟩ := sls1 rx
    split at h
    · next ys hy =>
      split at h
      · next ds hd =>
        obtain ⟨a, ws, rfl, h1, h2⟩ := lst_at s r hy
        rw [allD_eq hd] at h2
        exact ⟨a, ws, rfl, .inl ⟨h1, fun l n => q.tup s h2.toRp h n⟩⟩
      · exact h.elim
    · exact h.elim
  · exact h.elim
def fMax2 : DL1 := fun xs st k => match xs with
  | [.d (.int i), .d (.int j)] => k (.d (.int (if j > i then j else i))) st
  | _ => False
def fMin2 : DL1 := fun xs st k => match xs with
  | [.d (.int i), .d (.int j)] => k (.d (.int (if j < i then j else i))) st
  | _ => False
theorem rl_max2 {K : PySem.W.Frag} : RLD K (fun xs H Q => ∃ i j, xs = [.int i, .int j] ∧ Q (.int (if j > i then j else i)) H) fMax2 := fun fr H st xs sxs k Q s rx h q => by
  unfold fMax2 at h
  split at h
  · obtain ⟨v, u, rfl, r1, r2⟩ := sls2 rx
    exact ⟨_, _, by rw [rp_int r1, rp_int r2], q.now h s (.int _)⟩
  · exact h.elim
theorem rl_min2 {K : PySem.W.Frag} : RLD K (fun xs H Q => ∃ i j, xs = [.int i, .int j] ∧ Q (.int (if j < i then j else i)) H) fMin2 := fun fr H st xs sxs k Q s rx h q => by
  unfold fMin2 at h
  split at h
  · obtain ⟨v, u, rfl, r1, r2⟩ := sls2 rx
    exact ⟨_, _, by rw [rp_int r1, rp_int r2], q.now h s (.int _)⟩
  · exact h.elim
/-- sum of a list of ints, all and any of a list of truths -/
def intsOf : List Sl → Option (List Int)
  | [] => some []
  | .d (.int i) :: r => (match intsOf r with
    | some ns => some (i :: ns)
    | none => none)
  | _ :: _ => none
def boolsOf : List Sl → Option (List Bool)
  | [] => some []
  | .d (.bool i) :: r => (match boolsOf r with
    | some ns => some (i :: ns)
    | none => none)
  | _ :: _ => none
theorem intsOf_eq : ∀ {xs : List Sl} {ns : List Int}, intsOf xs = some ns → xs = ns.map fun i => Sl.d (.int i)
  | [], _, h => by
    cases h
    rfl
  | x :: r, ns, h => by
    unfold intsOf at h
    split at h
    · next e =>
      cases e
    · next i r' e =>
      cases e
      split at h
      · next ms hm =>
        cases h
        rw [List.map_cons, intsOf_eq hm]
      · cases h
    · cases h
theorem boolsOf_eq : ∀ {xs : List Sl} {ns : List Bool}, boolsOf xs = some ns → xs = ns.map fun i => Sl.d (.bool i)
  | [], _, h => by
    cases h
    rfl
  | x :: r, ns, h => by
    unfold boolsOf at h
    split at h
    · next e =>
      cases e
    · next i r' e =>
      cases e
      split at h
      · next ms hm =>
        cases h
        rw [List.map_cons, boolsOf_eq hm]
      · cases h
    · cases h
theorem intsOf_map : ∀ ns : List Int, intsOf (ns.map fun i => Sl.d (.int i)) = some ns
  | [] => rfl
  | x :: r => by
    rw [List.map_cons]
    unfold intsOf
    rw [intsOf_map r]
theorem boolsOf_map : ∀ ns : List Bool, boolsOf (ns.map fun i => Sl.d (.bool i)) = some ns
  | [] => rfl
  | x :: r => by
    rw [List.map_cons]
    unfold boolsOf
    rw [boolsOf_map r]
theorem sls_ints {K : PySem.W.Frag} {fr : Fz} {H : Hp} : ∀ {ns : List Int} {vs : List V}, SlsR K fr H vs (ns.map fun i => Sl.d (.int i)) → vs = ns.map V.int
  | [], _, .nil => rfl
  | _ :: _, _, .cons a b => by rw [List.map_cons, rp_int a, sls_ints b]
theorem sls_bools {K : PySem.W.Frag} {fr : Fz} {H : Hp} : ∀ {ns : List Bool} {vs : List V}, SlsR K fr H vs (ns.map fun i => Sl.d (.bool i)) → vs = ns.map V.bl
  | [], _, .nil => rfl
  | _ :: _, _, .cons a b => by rw [List.map_cons, rp_bool a, sls_bools b]
def fSum : DL1 := fun xs st k => match xs with
  | [x] => (match lstOf st x with
    | some ys => (match intsOf ys with
      | some ns => k (.d (.int ns.sum)) st
      | none => False)
    | none => False)
  | _ => False
theorem rl_sum {K : PySem.W.Frag} : RLD K (rSum K) fSum := fun fr H st xs sxs k Q s rx h q => by
  unfold fSum at h
  split at h
  · obtain ⟨v, rfl, r⟩ := sls1 rx
    split at h
    · next ys hy =>
      split at h
      · next ns hn =>
        obtain ⟨a, ws, rfl, h1, h2⟩ := lst_at s r hy
        rw [intsOf_eq hn] at h2
        rw [sls_ints h2] at h1
        exact ⟨a, ns, rfl, h1, q.now h s (.int _)⟩
      · exact h.elim
    · exact h.elim
  · exact h.elim
def fAll : DL1 := fun xs st k => match xs with
  | [x] => (match lstOf st x with
    | some ys => (match boolsOf ys with
      | some bs => k (.d (.bool (bs.all id))) st
      | none => False)
    | none => False)
  | _ => False
theorem rl_all {K : PySem.W.Frag} : RLD K (rAll K) fAll := fun fr H st xs sxs k Q s rx h q => by
  unfold fAll at h
  split at h
  · obtain ⟨v, rfl, r⟩ := sls1 rx
    split at h
    · next ys hy =>
      split at h
      · next ns hn =>
        obtain ⟨a, ws, rfl, h1, h2⟩ := lst_at s r hy
        rw [boolsOf_eq hn] at h2
        rw [sls_bools h2] at h1
        exact ⟨a, ns, rfl, h1, q.now h s (.bl _)⟩
      · exact h.elim
    · exact h.elim
  · exact h.elim
def fAny : DL1 := fun xs st k => match xs with
  | [x] => (match lstOf st x with
    | some ys => (match boolsOf ys with
      | some bs => k (.d (.bool (bs.any id))) st
      | none => False)
    | none => False)
  | _ => False
theorem rl_any {K : PySem.W.Frag} : RLD K (rAny K) fAny := fun fr H st xs sxs k Q s rx h q => by
  unfold fAny at h
  split at h
  · obtain ⟨v, rfl, r⟩ := sls1 rx
    split at h
    · next ys hy =>
      split at h
      · next ns hn =>
        obtain ⟨a, ws, rfl, h1, h2⟩ := lst_at s r hy
        rw [boolsOf_eq hn] at h2
        rw [sls_bools h2] at h1
        exact ⟨a, ns, rfl, h1, q.now h s (.bl _)⟩
      · exact h.elim
    · exact h.elim
  · exact h.elim
/-- the built-in sorts of things -/
inductive Ty where | non | bool | int | str | list | tuple | dict
def Ty.nm : Ty → String
  | .non => "NoneType"
  | .bool => "bool"
  | .int => "int"
  | .str => "str"
  | .list => "list"
  | .tuple => "tuple"
  | .dict => "dict"
def Ty.le : Ty → Ty → Bool
  | .non, .non => true
  | .bool, .bool => true
  | .bool, .int => true
  | .int, .int => true
  | .str, .str => true
  | .list, .list => true
  | .tuple, .tuple => true
  | .dict, .dict => true
  | _, _ => false
theorem Ty.kit : ∀ a b : Ty, kitB a.nm b.nm = some (a.le b) := by
  intro a b
  cases a <;> cases b <;> decide +kernel
def tyS (st : Store) : Sl → Option Ty
  | .d .none => some .non
  | .d (.bool _) => some .bool
  | .d (.int _) => some .int
  | .d (.str _) => some .str
  | .d (.list _) => some .list
  | .d (.tuple _) => some .tuple
  | .d (.dict _) => some .dict
  | .o p => (match st p with
    | some (.l _) => some .list
    | some (.k _) => some .dict
    | _ => none)
  | .r _ => some .list
  | .tn => some .tuple
  | .tc _ _ => some .tuple
  | .v _ => none
theorem sqt_ty {K : PySem.W.Frag} {H : Hp} {a : Addr} {ws : List V} (h1 : SqT K H a ws) : TyX K H (.ref a) (.type Ty.tuple.nm) := by
  rcases h1 with (h1 | ⟨o, h1⟩) | ⟨o, _, _, h1, h2, _⟩
  · exact .base (.tup h1)
  · exact .fTuple h1
  · exact .kTuple h1 h2
theorem ty_of {K : PySem.W.Frag} {fr : Fz} {H : Hp} {st : Store} {x : Sl} {v : V} {T : Ty} (s : StR K fr H st) (r : SlR K fr H v x) (h : tyS st x = some T) : TyX K H v (.type T.nm) := by
  unfold tyS at h
  split at h
  · cases h
    rw [rp_none r]
    exact .base .non
  · cases h
    rw [rp_bool r]
    exact .base (.bl _)
  · cases h
    rw [rp_int r]
    exact .base (.int _)
  · cases h
    rw [rp_str r]
    exact .base (.str _)
  · cases h
    obtain ⟨a, ws, rfl, h1, _⟩ := rp_lstp r
    exact .base (.lst h1)
  · cases h
    obtain ⟨a, ws, rfl, h1, _⟩ := rp_tupv r
    exact sqt_ty h1
  · cases h
    obtain ⟨a, ws, rfl, h1, _⟩ := rp_dctv r
    exact .base (.dK h1)
  · next p =>
    obtain rfl : v = .ref p := r
    split at h
    · next hp =>
      cases h
      obtain ⟨_, ws, hw, _⟩ := s.own p _ hp
      exact .base (.lst hw)
    · next hp =>
      cases h
      obtain ⟨_, ws, hw, _⟩ := s.own p _ hp
      exact .base (.dK hw)
    · cases h
  · cases h
    obtain ⟨a, ws, rfl, _, h1⟩ := r
    rcases h1 with ⟨o, h1⟩ | ⟨o, _, _, h1, h2, _⟩
    · exact .base (.frz h1)
    · exact .kList h1 h2
  · cases h
    obtain ⟨a, rfl, h1⟩ := r
    exact sqt_ty h1
  · cases h
    obtain ⟨a, _, _, rfl, h1, _⟩ := r
    exact sqt_ty h1
  · cases h
def fIsi (c : Ty) : DL1 := fun xs st k => match xs with
  | [x, .v (.ty _)] => (match tyS st x with
    | some T => k (.d (.bool (T.le c))) st
    | none => False)
  | _ => False
/-- isinstance(e, T), T a built-in class -/
def dIsi (c : Ty) (te : DTE) : DTE := fun ρ st k => te ρ st fun x st1 => match tyS st1 x with
  | some T => k (.d (.bool (T.le c))) st1
  | none => False
theorem LE.mono {K : PySem.W.Frag} {t t' : DTE} (h : ∀ ρ st k, t' ρ st k → t ρ st k) {σ : L2.St} {H : Hp} {Q : VK} : LE K t' σ H Q → LE K t σ H Q := fun ⟨fr, ρ, st, k, w, h1, q⟩ => ⟨fr, ρ, st, k, w, h _ _ _ h1, q⟩
def rIsiT (K : PySem.W.Frag) (c : Ty) : List V → Hp → VK → Prop := fun xs H Q => ∃ x T, xs = [x, .ty c.nm] ∧ TyX K H x (.type (Ty.nm T)) ∧ Q (.bl (T.le c)) H
theorem call_isiT' {X : Cx} (c : Ty) : CallR X (.builtin "isinstance") (rIsiT X.K c) := by
  intro pins s σ H xs us Q I r h
  obtain ⟨x, T, rfl, ht, q⟩ := h
  exact call_isi pins s σ H _ us Q I r ⟨x, .ty c.nm, _, _, T.le c, rfl, .ty _, ht, kit_ty (Ty.kit T c), q⟩
section
variable {X : Cx} {pos : Pos}
theorem d_isi (c : Ty) {e : Expr} {te : DTE} {p p2 : Pos} {tn : Str} (hi : X.mg "isinstance" = none) (hm : X.mg tn = none) (hv : bootBuiltins tn = some (.type c.nm)) (he : DE X e te) (hg2 : Gl X tn := by rfl) (hn2 : tn ≠ "__name__" := by decide) (hd2 : (tn == ("__debug__" : Str)) = false := by decide)
    (hg : Gl X "isinstance" := by rfl) (hs : starEach [e, .Name tn p2] X.env = (false, eval e X.env) :: starEach [.Name tn p2] X.env := by rfl) (hpl : (backTo pos (starEach [.Name tn p2] X.env)).any (·.1) = false := by rfl) :
    DE X (.Call (.Name "isinstance" p) [e, .Name tn p2] [] pos) (dIsi c te) :=
  pe_imp (pe_callB (call_isiT' c) hg hi (by decide +kernel) (pa_cons he (pa_cons (pe_bltn (v := .ty c.nm) hg2 hm hv rfl hn2 hd2) pa_nil (by rfl)) hs) (by decide) (by decide) hs hpl) fun σ H Q ⟨fr, ρ, st, k, w, h, q⟩ => by
    refine ⟨fr, ρ, st, _, w, h, fun x st1 fr1 H1 v k1 e1 s1 r1 => ?_⟩
    split at k1
    · next T hT => exact ⟨v, T, rfl, ty_of s1 r1 hT, q _ _ _ _ _ k1 e1 s1 (.bl _)⟩
    · exact k1.elim
end
section
variable {X : Cx} {pos : Pos}
theorem d_ty {x : Str} {T : String} (hm : X.mg x = none) (hv : bootBuiltins x = some (.type T)) (hg : Gl X x := by rfl) (hn : x ≠ "__name__" := by decide) (hd : (x == ("__debug__" : Str)) = false := by decide) : DE X (.Name x pos) (dV (.ty T)) :=
  pe_imp (pe_bltn (v := .ty T) hg hm hv rfl hn hd) fun σ H Q ⟨fr, ρ, st, k, w, h, q⟩ => q.now (x := .v (.ty T)) h w.sto rfl
/-- a value of the module, by what it is -/
theorem d_glob {x : Str} {v : V} {u : Value} (hm : X.mg x = some u) (r : RelV v u) (hg : Gl X x := by rfl) (hd : (x == ("__debug__" : Str)) = false := by decide) : DE X (.Name x pos) (dV v) :=
  pe_imp (pe_glob hg hm r hd) fun σ H Q ⟨fr, ρ, st, k, w, h, q⟩ => q.now (x := .v v) h w.sto rfl
/-- a module's datum -/
theorem d_globD {x : Str} {v : V} {u : Value} {d : PyData} (hm : X.mg x = some u) (r : RelV v u) (hr : ∀ fr H, Rp X.K fr H v d) (hg : Gl X x := by rfl) (hd : (x == ("__debug__" : Str)) = false := by decide) : DE X (.Name x pos) (dC d) :=
  pe_imp (pe_glob hg hm r hd) fun σ H Q ⟨fr, ρ, st, k, w, h, q⟩ => q.now (x := .d d) h w.sto (hr fr H)
end
/-! ### repr -/
def repOk (d : PyData) : Prop := PyData.showable d = true ∧ d.depth ≤ 100 ∧ (PyData.shown d).length ≤ sizeLine ∧ d.hasDict = false
def fRepr : DL1 := fun xs st k => match xs with
  | [x] => (match datOf st x with
    | some (.int i) => i.natAbs.log2 < 1920 ∧ k (.d (.str (toString i))) st
    | some (.tuple ds) => repOk (.tuple ds) ∧ k (.d (.str (PyData.shown (.tuple ds)))) st
    | some (.list ds) => repOk (.list ds) ∧ k (.d (.str (PyData.shown (.list ds)))) st
    | _ => False)
  | _ => False
mutual
theorem rp_dpn {K : PySem.W.Frag} {fr : Fz} {H : Hp} : ∀ {v : V} {d : PyData}, d.hasDict = false → Rp K fr H v d → Dp K H v d
  | _, _, _, .non => .non
  | _, _, _, .bl b => .bl b
  | _, _, _, .int i => .int i
  | _, _, _, .str x => .str x
  | _, _, c, .lst h f r => .lst (SqL.of h) (rp_dpsn (by simpa [PyData.hasDict] using c) r)
  | _, _, c, .tup h r => .tup h (rp_dpsn (by simpa [PyData.hasDict] using c) r)
  | _, _, c, .dct _ _ _ => by simp [PyData.hasDict] at c
theorem rp_dpsn {K : PySem.W.Frag} {fr : Fz} {H : Hp} : ∀ {v : List V} {d : List PyData}, PyData.hasDictAll d = false → RpAll K fr H v d → DpAll K H v d
  | _, _, _, .nil => .nil
  | _, _, c, .cons a b => by
    have c' := Bool.or_eq_false_iff.mp (show (_ || _) = false by simpa [PyData.hasDictAll] using c)
    exact .cons (rp_dpn c'.1 a) (rp_dpsn c'.2 b)
end
theorem dat_dpn {K : PySem.W.Frag} {fr : Fz} {H : Hp} {st : Store} {x : Sl} {v : V} {d : PyData} (c : d.hasDict = false) (s : StR K fr H st) (r : SlR K fr H v x) (h : datOf st x = some d) : Dp K H v d := by
  unfold datOf at h
  split at h
  · cases h
    exact rp_dpn c r
  · next p =>
    obtain rfl : v = .ref p := r
    split at h
    · next xs hx =>
      split at h
      · next ds hd =>
        cases h
        obtain ⟨_, ws, hw, hr⟩ := s.own p _ hx
        rw [allD_eq hd] at hr
        exact .lst (SqL.of hw) (rp_dpsn (by simpa [PyData.hasDict] using c) hr.toRp)
      · cases h
    · cases h
  · cases h
    obtain ⟨a, ws, rfl, h1, h2⟩ := rol_v r
    exact .lst h1 (rp_dpsn (by simpa [PyData.hasDict] using c) h2)
  · cases h
def rRepr (K : PySem.W.Frag) : List V → Hp → VK → Prop := fun xs H Q => (∃ i, xs = [.int i] ∧ i.natAbs.log2 < 1920 ∧ Q (.str (toString i)) H) ∨
  ∃ a d, xs = [.ref a] ∧ Dp K H (.ref a) d ∧ d.showable = true ∧ d.hasDict = false ∧ d.depth ≤ 100 ∧ d.shown.length ≤ sizeLine ∧ Q (.str d.shown) H
theorem call_reprU {X : Cx} (hg : X.A.guards = some []) (hu : X.A.units + 180 < cLine) : CallR X (.builtin "repr") (rRepr X.K) := by
  intro pins s σ H xs us Q I r h
  rcases h with ⟨i, rfl, hz, q⟩ | ⟨a, d, rfl, hd, h1, h2, h3, h4, q⟩
  · obtain ⟨u, rfl, t, rfl⟩ := vals1 r
    exact PySem.P.repr_of_int hz ⟨.str _, H, I.tok _, ⟨_, rfl⟩, q⟩
  · obtain ⟨u, rfl, rx⟩ := vals1 r
    obtain ⟨as, rd⟩ := Dp.reads I d _ u hd rx
    obtain rfl : u = Value.ref a := rx
    refine repr_of_reads' (h₀ := s.heap) rd h1 (PyData.noDict_hsm h2) hg (by omega) (fun _ _ e => e) (fun h' u tk hk => ?_) h4
    exact ⟨.str d.shown, H, I.kept (t' := tk) hk, ⟨u, rfl⟩, q⟩
theorem rl_repr {K : PySem.W.Frag} : RLD K (rRepr K) fRepr := fun fr H st xs sxs k Q s rx h q => by
  unfold fRepr at h
  split at h
  · obtain ⟨v, rfl, r⟩ := sls1 rx
    split at h
    · next i hi =>
      have hd := dat_dpn (by simp [PyData.hasDict]) s r hi
      cases hd
      exact .inl ⟨i, rfl, h.1, q.now h.2 s (.str _)⟩
    · next ds hi =>
      have hd := dat_dpn h.1.2.2.2 s r hi
      cases hd with
      | tup a b => exact .inr ⟨_, _, rfl, .tup a b, h.1.1, h.1.2.2.2, h.1.2.1, h.1.2.2.1, q.now h.2 s (.str _)⟩
    · next ds hi =>
      have hd := dat_dpn h.1.2.2.2 s r hi
      cases hd with
      | lst a b => exact .inr ⟨_, _, rfl, .lst a b, h.1.1, h.1.2.2.2, h.1.2.1, h.1.2.2.1, q.now h.2 s (.str _)⟩
    · exact h.elim
  · exact h.elim
/-! ### methods of own lists -/
abbrev DM := Addr → List Sl → List Sl → Store → KD → Prop
def isL : Option Cell → Bool
  | some (.l _) => true
  | _ => false
/-- o.m(..): o an own list; the list is read behind the arguments -/
def dOM (f : DM) (to : DTE) (ta : DTA) : DTE := fun ρ st k => to ρ st fun x st1 => match x with
  | .o p => isL (st1 p) = true ∧ ta ρ st1 fun ys st2 => (match st2 p with
    | some (.l xs) => f p xs ys st2 k
    | _ => False)
  | _ => False
def RMD (K : PySem.W.Frag) (r : V → List V → Hp → VK → Prop) (f : DM) : Prop := ∀ fr H st p xs ys vs k Q, StR K fr H st → st p = some (.l xs) → SlsR K fr H vs ys → f p xs ys st k → QE K fr H st k Q → r (.ref p) vs H Q
theorem le_om {K : PySem.W.Frag} {r : V → List V → Hp → VK → Prop} {f : DM} {to : DTE} {ta : DTA} (h : RMD K r f) {σ : L2.St} {H : Hp} {Q : VK} : LE K (dOM f to ta) σ H Q → tBM K "list" r (LE K to) (LA K ta) σ H Q := by
  rintro ⟨fr, ρ, st, k, w, h1, q⟩
  refine ⟨fr, ρ, st, _, w, h1, fun x st1 fr1 H1 v k1 e1 s1 r1 => ?_⟩
  split at k1
  · next p =>
    obtain ⟨np, k1⟩ := k1
    obtain rfl : v = .ref p := r1
    unfold isL at np
    split at np
    · next xs hp =>
      obtain ⟨_, ws, hw, _⟩ := s1.own p _ hp
      refine ⟨.inl ⟨rfl, ws, SqL.of hw⟩, fr1, ρ, st1, _, w.on e1 s1, k1, fun ys st2 fr2 H2 vs k2 e2 s2 r2 => ?_⟩
      split at k2
      · next zs hz => exact h fr2 H2 st2 p zs ys vs k Q s2 hz r2 k2 (q.at (e1.trans e2))
      · exact k2.elim
    · cases np
  · exact k1.elim
theorem le_om0 {K : PySem.W.Frag} {r : V → List V → Hp → VK → Prop} {f : DM} {to : DTE} (h : RMD K r f) {σ : L2.St} {H : Hp} {Q : VK} : LE K (dOM f to dNil) σ H Q → tBM0 K "list" r (LE K to) σ H Q := by
  rintro ⟨fr, ρ, st, k, w, h1, q⟩
  refine ⟨fr, ρ, st, _, w, h1, fun x st1 fr1 H1 v k1 e1 s1 r1 => ?_⟩
  split at k1
  · next p =>
    obtain ⟨np, k1⟩ := k1
    obtain rfl : v = .ref p := r1
    have k2 : (match st1 p with
      | some (.l xs) => f p xs [] st1 k
      | _ => False) := k1
    split at k2
    · next zs hz =>
      obtain ⟨_, ws, hw, _⟩ := s1.own p _ hz
      exact ⟨.inl ⟨rfl, ws, SqL.of hw⟩, h fr1 H1 st1 p zs [] [] k Q s1 hz .nil k2 (q.at e1)⟩
    · exact k2.elim
  · exact k1.elim
theorem QE.setq {K : PySem.W.Frag} {fr : Fz} {H : Hp} {st : Store} {k : KD} {Q : VK} {p : Addr} {xs ys : List Sl} {ws : List V} {x : Sl} {v : V} (q : QE K fr H st k Q) (s : StR K fr H st) (hp : st p = some (.l xs)) (r : SlsR K fr H ws ys) (rv : SlR K fr H v x) (h : k x (sset st p ys)) : Q v (upd H p (.lst ws)) :=
  q _ _ _ _ _ h (ext_set hp s) (str_set hp s r) (rv.ex s.ow (ext_set (ys := ys) (ws := ws) hp s))
def fApp : DM := fun p xs ys st k => match ys with
  | [y] => xs.length < sizeLine ∧ k (.d .none) (sset st p (xs ++ [y]))
  | _ => False
theorem rm_app {K : PySem.W.Frag} : RMD K rAppend fApp := fun fr H st p xs ys vs k Q s hp r h q => by
  unfold fApp at h
  split at h
  · obtain ⟨v, rfl, rv⟩ := sls1 r
    obtain ⟨_, ws, hw, hr⟩ := s.own p _ hp
    exact ⟨p, ws, v, rfl, rfl, hw, by rw [hr.length]; exact h.1, q.setq s hp (hr.app (.cons rv .nil)) (x := .d .none) (show Rp K fr H .non .none from .non) h.2⟩
  · exact h.elim
def fPopAt : DM := fun p xs ys st k => match ys with
  | [.d (.int i)] => (-(2 ^ 63) ≤ i ∧ i < 2 ^ 63) ∧ (match seqIndex? i xs.length with
    | some j => (match xs[j]? with
      | some y => k y (sset st p (xs.eraseIdx j))
      | none => False)
    | none => False)
  | _ => False
theorem rm_popAt {K : PySem.W.Frag} : RMD K rPopAt fPopAt := fun fr H st p xs ys vs k Q s hp r h q => by
  unfold fPopAt at h
  split at h
  · next i =>
    obtain ⟨v, rfl, rv⟩ := sls1 r
    obtain ⟨_, ws, hw, hr⟩ := s.own p _ hp
    obtain ⟨hb, h⟩ := h
    split at h
    · next j hj =>
      split at h
      · next y hy =>
        obtain ⟨u, hu, ru⟩ := hr.get hy
        exact ⟨p, ws, i, j, u, rfl, by rw [rp_int rv], hw, hb.1, hb.2, by rw [hr.length]; exact hj, hu, q.setq s hp (hr.era j) ru h⟩
      · exact h.elim
    · exact h.elim
  · exact h.elim
def fIns : DM := fun p xs ys st k => match ys with
  | [.d (.int i), y] => (xs.length < sizeLine ∧ 0 ≤ i ∧ i < 2 ^ 63) ∧ k (.d .none) (sset st p (xs.take i.toNat ++ y :: xs.drop i.toNat))
  | _ => False
section
variable {X : Cx} {o e : Expr} {es : List Expr} {to : DTE} {t : DTA} {name : Str} {apos cpos : Pos} {id : String} {r : V → List V → Hp → VK → Prop} {f : DM}
theorem d_om (slot : Slot "list" name id) (hty : typeOf (.builtin id) = pure (.type "method_descriptor")) (hm : MtR X id r) (hf : RMD X.K r f) (ho : DE X o to) (ha : DA X (e :: es) t)
    (hbase : attributeBase o name X.env (eval o X.env) = eval o X.env := by rfl)
    (hfew : ((backTo cpos (starEach (e :: es) X.env)).all (fun x => !x.1) && (backToKw cpos (keywordEach [] X.env)).all (fun x => x.1.isSome)
      && decide ((e :: es).length + ([] : List Keyword).length + (if ([] : List Keyword).isEmpty then 0 else 1) < 30)) = true := by rfl)
    (hline : (apos.endLine == cpos.line) = true := by rfl) (hs : starEach (e :: es) X.env = (false, eval e X.env) :: starEach es X.env := by rfl) (hplain : (backTo cpos (starEach es X.env)).any (·.1) = false := by rfl) :
    DE X (.Call (.Attribute o name apos) (e :: es) [] cpos) (dOM f to t) := pe_imp (pe_bm PySem.F.plainAttrs_list slot hty hm ho ha hbase hfew hline hs hplain) fun _ _ _ => le_om hf
theorem d_om0 (slot : Slot "list" name id) (hty : typeOf (.builtin id) = pure (.type "method_descriptor")) (hm : MtR X id r) (hf : RMD X.K r f) (ho : DE X o to) (hbase : attributeBase o name X.env (eval o X.env) = eval o X.env := by rfl) (hline : (apos.endLine == cpos.line) = true := by rfl) :
    DE X (.Call (.Attribute o name apos) [] [] cpos) (dOM f to dNil) := pe_imp (pe_bm0 PySem.F.plainAttrs_list slot hty hm ho hbase hline) fun _ _ _ => le_om0 hf
end
end DL
namespace DL
open PySem PySem.Spec PyProof.Rows L2
/-! ### what a def promises, over data -/
/-- an exception over data: its class, its one field -/
abbrev XV := Value × Option (Str × Sl)
abbrev DWP := List Sl → Store → KD → (XV → Store → Prop) → Prop
def XR (K : PySem.W.Frag) (fr : Fz) (H : Hp) (d : Option Addr) (c : XV) : Prop := match c.2 with
  | none => d = none
  | some (f, x) => ∃ dd v, d = some dd ∧ H dd = some (.xd [(f, v)]) ∧ SlR K fr H v x
def QX (K : PySem.W.Frag) (fr : Fz) (H : Hp) (st : Store) (ke : XV → Store → Prop) (E : XK) : Prop := ∀ c st' fr' H' d, ke c st' → Ext fr H st fr' H' st' → StR K fr' H' st' → XR K fr' H' d c → E c.1 d H'
theorem QX.at {K : PySem.W.Frag} {fr fr1 : Fz} {H H1 : Hp} {st st1 : Store} {k : XV → Store → Prop} {E : XK} (q : QX K fr H st k E) (e : Ext fr H st fr1 H1 st1) : QX K fr1 H1 st1 k E := fun c st' fr' H' d a b x y => q c st' fr' H' d a (e.trans b) x y
def spD (K : PySem.W.Frag) (wp : DWP) : Sp := fun vs H Q E => ∃ fr st xs k ke, StR K fr H st ∧ SlsR K fr H vs xs ∧ wp xs st k ke ∧ QE K fr H st k Q ∧ QX K fr H st ke E
/-- a def keeps a promise over data, where no repr is under way -/
structure FnG (P : Program) (w : World) (K : PySem.W.Frag) (mg : Str → Option Value) (base : Heap) (CX : CXT) (lv : Nat) (f : Addr) (fd : FuncData) (ps : List Str) (wp : DWP) : Prop where
  len : ∀ xs st k ke, wp xs st k ke → xs.length = ps.length
  go : ∀ (A : Around) (outer : List Env) (s : Shared) (H : Hp) (args : Args) (us : List Value) (vs : List V) (Q : VK) (E : XK), Room lv A → A.guards = some [] → Env0 P w K mg base A outer s H → BindsTo s fd args (ps.zip us) →
    Vals vs us → spD K wp vs H Q E → codeAny (model P w) A (.call (.ref f) args) (CR CX outer P w H s Q E) s
theorem spD_len {K : PySem.W.Frag} {wp : DWP} {ps : List Str} (h : ∀ xs st k ke, wp xs st k ke → xs.length = ps.length) {vs : List V} {H : Hp} {Q : VK} {E : XK} (q : spD K wp vs H Q E) : vs.length = ps.length := by
  obtain ⟨fr, st, xs, k, ke, s, r, w, _⟩ := q
  rw [r.length]
  exact h xs st k ke w
theorem FnG.mono {P : Program} {w : World} {K : PySem.W.Frag} {mg : Str → Option Value} {base : Heap} {CX : CXT} {j lv : Nat} {f : Addr} {fd : FuncData} {ps : List Str} {wp : DWP} (F : FnG P w K mg base CX j f fd ps wp) (h : j ≤ lv) : FnG P w K mg base CX lv f fd ps wp :=
  ⟨F.len, fun A outer s H args us vs Q E hr => F.go A outer s H args us vs Q E (hr.mono h)⟩
theorem guards_deeper {A : Around} (env : Env) (h : A.guards = some []) : (A.deeper env).guards = some [] := by
  first
    | exact h
    | (show _ = _; simpa [Around.deeper] using h)
section
variable {X : Cx} {CX : CXT} {lv : Nat} {f : Addr} {fd : FuncData} {ps : List Str} {wp : DWP} {x : Str} {p pos : Pos} {e : Expr} {es : List Expr} {t : DTA} {E : XK}
/-- f(..): the arguments, the defaults ds behind them -/
def dCall (wp : DWP) (ds : List Sl) (ke : XV → Store → Prop) (ta : DTA) : DTE := fun ρ st k => ta ρ st fun xs st1 => wp (xs ++ ds) st1 k ke
theorem run_g {pins : List (Addr × Obj)} {σ : L2.St} {H : Hp} {s : Shared} {Q : VK} {args : Args} {us : List Value} {vs : List V} (F : FnG X.prog X.w X.K X.mg X.base CX lv f fd ps wp) (hr : Room lv X.A) (hg : X.A.guards = some []) (hx : Passes CX X E)
    (I : Inv X pins σ H s) (hb : us.length = ps.length → BindsTo s fd args (ps.zip us)) (r : Vals vs us) (h : spD X.K wp vs H Q E) : codeAny (model X.prog X.w) X.A (.call (.ref f) args) (fun r s' => match r with
      | .ok (.ret u) => EP X pins σ Q u s'
      | .ok _ => False
      | .error e => X.xe e s') s := by
  have hl : us.length = ps.length := by
    rw [← r.length]
    exact spD_len F.len h
  refine codeAny_mono (F.go X.A X.stack s H args us vs Q E hr hg I.env0 (hb hl) r h) fun z s' hz => ?_
  match z, hz with
  | .error e, hz => exact hx pins σ H s e s' I hz
  | .ok (.ret u), hz => exact I.after hz
theorem call_g {pins : List (Addr × Obj)} {σ : L2.St} {H : Hp} {s : Shared} {Q : VK} {us us' : List Value} {kws : List (Str × Value)} {vs : List V} (F : FnG X.prog X.w X.K X.mg X.base CX lv f fd ps wp) (hr : Room lv X.A) (hg : X.A.guards = some []) (hx : Passes CX X E)
    (I : Inv X pins σ H s) (hb : us.length = ps.length → BindsTo s fd ⟨us', kws⟩ (ps.zip us)) (r : Vals vs us) (h : spD X.K wp vs H Q E) : wpAny (model X.prog X.w) X.A (call (.ref f) us' kws) (EP X pins σ Q) X.xe s :=
  wpAny_call (codeAny_mono (run_g F hr hg hx I hb r h) fun z s' hz => by
    match z, hz with
    | .error e, hz => exact hz
    | .ok (.ret u), hz => exact hz)
/-- what is wished of exceptions: nothing -/
theorem qx_none {K : PySem.W.Frag} {fr : Fz} {H : Hp} {st : Store} {E : XK} : QX K fr H st (fun _ _ => False) E := fun _ _ _ _ _ z => z.elim
theorem d_call {ds : List Sl} {dvs : List V} {dus : List Value} (F : FnG X.prog X.w X.K X.mg X.base CX0 lv f fd ps wp) (hr : Room lv X.A) (hg : X.A.guards = some []) (hm : X.mg x = some (.ref f)) (hk : PySem.W.keepIn X.K (.ref f) = true) (hb : Binds X.K fd ps dus) (hd : Vals dvs dus) (hs : ∀ fr H, SlsR X.K fr H dvs ds)
    (ha : DA X (e :: es) t) (hgl : Gl X x := by rfl) (hdb : (x == ("__debug__" : Str)) = false := by decide) (he : starEach (e :: es) X.env = (false, eval e X.env) :: starEach es X.env := by rfl) (hpl : (backTo pos (starEach es X.env)).any (·.1) = false := by rfl) :
    DE X (.Call (.Name x p) (e :: es) [] pos) (dCall wp ds (fun _ _ => False) t) := by
  constructor
  intro pins s σ H Q I h
  obtain ⟨fr, ρ, st, k, w, h, q⟩ := h
  refine wpAny_Call_Name_kw (ld_glob I hgl hm ?_ hdb)
  refine PySem.W.callWith_K (h₀ := X.base) I.ok.mod.kin hk (thn (ha.run pos pins s σ H (fun vs H1 => spD X.K wp (vs ++ dvs) H1 Q E0) I ⟨fr, ρ, st, _, w, h, fun xs st1 fr1 H1 vs k1 e1 s1 r1 => ?_⟩) fun us s1 z => ?_) he hpl
  · exact ⟨fr1, st1, xs ++ ds, k, _, s1, r1.app (hs fr1 H1), k1, q.at e1, qx_none⟩
  · obtain ⟨vs, H1, I1, r, z⟩ := z
    exact ⟨I1.kIn, call_g (us := us ++ dus) F hr hg pass0 I1 (fun hl => hb s1 us I1.kIn hl) (r.append hd) z⟩
/-- f() -/
theorem d_call0 {ds : List Sl} {dvs : List V} {dus : List Value} (F : FnG X.prog X.w X.K X.mg X.base CX0 lv f fd ps wp) (hr : Room lv X.A) (hg : X.A.guards = some []) (hm : X.mg x = some (.ref f)) (hk : PySem.W.keepIn X.K (.ref f) = true) (hb : Binds X.K fd ps dus) (hd : Vals dvs dus) (hs : ∀ fr H, SlsR X.K fr H dvs ds)
    (hgl : Gl X x := by rfl) (hdb : (x == ("__debug__" : Str)) = false := by decide) : DE X (.Call (.Name x p) [] [] pos) (dCall wp ds (fun _ _ => False) dNil) := by
  constructor
  intro pins s σ H Q I h
  obtain ⟨fr, ρ, st, k, w, h, q⟩ := h
  refine wpAny_Call_Name_kw (ld_glob I hgl hm ?_ hdb)
  exact PySem.W.callWith_K0 I.kIn hk (call_g (us := [] ++ dus) (us' := []) F hr hg pass0 I (fun hl => hb s [] I.kIn hl) (Vals.append .nil hd) ⟨fr, st, ds, k, _, w.sto, hs fr H, h, q, qx_none⟩)
/-! ### keywords -/
abbrev DK (X : Cx) (ks : List Keyword) (t : DTA) : Prop := PK X ks (LA X.K t)
theorem pk_imp {X : Cx} {e : List Keyword} {t t' : TA} (h : PK X e t) (i : ∀ σ H Q, t' σ H Q → t σ H Q) : PK X e t' := ⟨fun pos pins s σ H Q I q => h.run pos pins s σ H Q I (i _ _ _ q)⟩
theorem k_nil : DK X [] dNil := pk_imp pk_nil fun σ H Q ⟨fr, ρ, st, k, w, h, q⟩ => q [] st fr H [] h (Ext.refl _ _ _) w.sto .nil
theorem k_cons {te : DTE} {kws : List Keyword} {tk : DTA} {nm : Option Str} {kpos : Pos} (ha : DE X e te) (hr : DK X kws tk) : DK X (⟨nm, e, kpos⟩ :: kws) (dCons te tk) := pk_imp (pk_cons ha hr) fun σ H Q ⟨fr, ρ, st, k, w, h, q⟩ =>
  ⟨fr, ρ, st, _, w, h, fun x st1 fr1 H1 v k1 e1 s1 r1 => ⟨fr1, ρ, st1, _, w.on e1 s1, k1, fun xs st2 fr2 H2 vs k2 e2 s2 r2 => q _ _ _ _ _ k2 (e1.trans e2) s2 (.cons (r1.ex s1.ow e2) r2)⟩⟩
/-- f(k = v, ..): how the keywords' values come to the parameters' places: by a list of places -/
def byPl {α : Type} (pl : List Nat) (ws : List α) : List α := pl.filterMap fun i => ws[i]?
def dCallK (wp : DWP) (pl : List Nat) (ke : XV → Store → Prop) (tk : DTA) : DTE := fun ρ st k => tk ρ st fun xs st1 => xs.length = pl.length ∧ wp (byPl pl xs) st1 k ke
theorem sls_byPl {K : PySem.W.Frag} {fr : Fz} {H : Hp} {vs : List V} {xs : List Sl} (r : SlsR K fr H vs xs) : ∀ pl : List Nat, SlsR K fr H (byPl pl vs) (byPl pl xs)
  | [] => .nil
  | i :: l => by
    have ih := sls_byPl r l
    unfold byPl at ih ⊢
    cases e : xs[i]? with
    | none =>
      have e2 : vs[i]? = none := by
        rw [List.getElem?_eq_none_iff] at e ⊢
        rw [r.length]
        exact e
      rw [List.filterMap_cons_none e, List.filterMap_cons_none e2]
      exact ih
    | some x =>
      obtain ⟨v, hv, rv⟩ := r.get e
      rw [List.filterMap_cons_some e, List.filterMap_cons_some hv]
      exact .cons rv ih
theorem vals_byPl {vs : List V} {us : List Value} (r : Vals vs us) : ∀ pl : List Nat, Vals (byPl pl vs) (byPl pl us)
  | [] => .nil
  | i :: l => by
    have ih := vals_byPl r l
    unfold byPl at ih ⊢
    cases e : vs[i]? with
    | none =>
      rw [List.filterMap_cons_none e, List.filterMap_cons_none (r.none_of e)]
      exact ih
    | some x =>
      obtain ⟨v, hv, rv⟩ := r.get e
      rw [List.filterMap_cons_some e, List.filterMap_cons_some hv]
      exact .cons rv ih
/-- how a call by keywords alone binds -/
def KwBinds (K : PySem.W.Frag) (fd : FuncData) (ps ks : List Str) (pl : List Nat) : Prop := ∀ (s : Shared) (ws : List Value), K.In s.heap → ws.length = ks.length → BindsTo s fd ⟨[], ks.zip ws⟩ (ps.zip (byPl pl ws))
theorem d_callK {ks : List Str} (pl : List Nat) {kws : List Keyword} {tk : DTA} (F : FnG X.prog X.w X.K X.mg X.base CX0 lv f fd ps wp) (hr : Room lv X.A) (hg : X.A.guards = some []) (hm : X.mg x = some (.ref f)) (hk : PySem.W.keepIn X.K (.ref f) = true) (hb : KwBinds X.K fd ps ks pl)
    (hn : pl.length = ks.length) (hkw : DK X kws tk) (hall : (backToKw pos (keywordEach kws X.env)).all (·.1.isSome) = true := by rfl) (hks : (backToKw pos (keywordEach kws X.env)).filterMap (·.1) = ks := by rfl) (hgl : Gl X x := by rfl)
    (hdb : (x == ("__debug__" : Str)) = false := by decide) (hpl : ((backTo pos (starEach [] X.env)).any (·.1) || (backToKw pos (keywordEach kws X.env)).any (·.1.isNone)) = false := by rfl) :
    DE X (.Call (.Name x p) [] kws pos) (dCallK wp pl (fun _ _ => False) tk) := by
  constructor
  intro pins s σ H Q I h
  obtain ⟨fr, ρ, st, k, w, h, q⟩ := h
  refine wpAny_Call_Name_kw (ld_glob I hgl hm ?_ hdb)
  refine PySem.W.callWith_KW0 (h₀ := X.base) I.ok.mod.kin hk hall (thn (hkw.run pos pins s σ H (fun vs H1 => vs.length = pl.length ∧ spD X.K wp (byPl pl vs) H1 Q E0) I ⟨fr, ρ, st, _, w, h, fun xs st1 fr1 H1 vs k1 e1 s1 r1 => ?_⟩) fun us s1 z => ?_) hpl
  · exact ⟨r1.length.trans k1.1, fr1, st1, byPl pl xs, k, _, s1, sls_byPl r1 pl, k1.2, q.at e1, qx_none⟩
  · obtain ⟨vs, H1, I1, r, hv, z⟩ := z
    refine ⟨I1.kIn, ?_⟩
    rw [hks]
    exact call_g (us := byPl pl us) (us' := []) F hr hg pass0 I1 (fun _ => hb s1 us I1.kIn (by rw [← r.length, hv, hn])) (vals_byPl r pl) z
end
/-! ### a def's body keeps its promise -/
def startD (N : List Str) (xs : List Sl) : Sls := xs.map some ++ List.replicate (N.length - xs.length) none
theorem start_wd {K : PySem.W.Frag} {fr : Fz} {H : Hp} {st : Store} {N : List Str} {vs : List V} {xs : List Sl} (s : StR K fr H st) (r : SlsR K fr H vs xs) : Wd K fr H (L2.start N vs) (startD N xs) st := by
  have hl := r.length
  refine ⟨by unfold L2.start startD; rw [List.length_append, List.length_append, List.length_map, List.length_map, List.length_replicate, List.length_replicate, hl], fun i x h => ?_, s⟩
  unfold startD at h
  by_cases hi : i < xs.length
  · rw [List.getElem?_append_left (by rw [List.length_map]; exact hi), List.getElem?_map] at h
    cases e : xs[i]? with
    | none =>
      rw [e] at h
      cases h
    | some y =>
      rw [e] at h
      cases h
      obtain ⟨v, hv, rv⟩ := r.get e
      refine ⟨v, ?_, rv⟩
      unfold L2.start
      rw [List.getElem?_append_left (by rw [List.length_map, hl]; exact hi), List.getElem?_map, hv]
      rfl
  · rw [List.getElem?_append_right (by rw [List.length_map]; omega), List.getElem?_replicate] at h
    split at h <;> cases h
section
variable {P : Program} {w : World} {K : PySem.W.Frag} {mg : Str → Option Value} {base : Heap}
/-- the frame of a call: the body's run gives the call's end -/
theorem enter_g {CX : CXT} {x qual : Str} {st : Stmt} {f : Addr} {fd : FuncData} {N ps : List Str} {lv : Nat} {sp : Sp} (F : Fun K x qual st f fd) (S : FnScope N ps (defScope st)) (len : ∀ vs H Q E, sp vs H Q E → vs.length = ps.length)
    {A : Around} {outer : List Env} {s : Shared} {H : Hp} {args : Args} {us : List Value} {vs : List V} {Q : VK} {E : XK} (hr : Room (lv + 1) A) (e0 : Env0 P w K mg base A outer s H) (hb : BindsTo s fd args (ps.zip us)) (r : Vals vs us) (hsp : sp vs H Q E)
    (hbody : ∀ cdv, ∃ t, PSs (cxOf CX P w K mg base N qual (defScope st) f cdv A outer s H E) (defBody st) t ∧ t { nx := fun _ H' => Q .non H', rt := Q } (start N vs) H) :
    codeAny (model P w) A (.call (.ref f) args) (CR CX outer P w H s Q E) s := by
  obtain ⟨oc, od, kV, doc, pm, an, cdv, ct, osl, rfl, lk, hcd⟩ := F.ex
  have sees : K.In s.heap := e0.mod.kin.keeps fun b o q => (e0.bs b o q).1
  have kinds : ∀ y ∈ ps.zip us, (defScope st).names.lookup y.1 = some .local ∨ ((defScope st).names.lookup y.1 = some .cell ∧ ((cellsFrom (s.heap.objs.size + 1) (defScope st).names []).lookup y.1).isSome = true) := by
    rintro ⟨n, v⟩ hy
    exact (S.par n (List.of_mem_zip hy).1).imp id fun q => ⟨q, PySem.W.cellsFrom_some _ _ _ (.inl q)⟩
  have hl := len _ _ _ _ hsp
  refine codeAny_call_function hr.depth (sees _ _ lk) rfl S.co S.gen rfl (PySem.W.codeRec_of sees hcd) (hb _ _ _ _ (wpAny_newFunctionEnv_cells S.kind kinds fun env he s1 X1 => ?_))
  subst he
  have lim : s.heap.NoLimit := e0.mod.nolimit.keeps fun b o q => (e0.bs b o q).1
  refine ⟨lim.keeps X1.toInCall.keep, codeAny_func ?_⟩
  obtain ⟨t, ht, hq⟩ := hbody cdv
  have I := inv_start (CX := CX) (E := E) S hr.hd e0 hl r X1
  refine wpAny_mono (ht.run [] s1 _ H _ I hq) (fun fl s' hs => ?_) fun _ _ z => z
  match fl, hs with
  | .ret u, ⟨v, σ', H', J, rv, q⟩ => exact ⟨v, H', J.os, J.bare, J.base, J.hok, rv, q⟩
  | .next, ⟨σ', H', J, q⟩ => exact ⟨.non, H', J.os, J.bare, J.base, J.hok, rfl, q⟩
  | .brk, ⟨_, _, _, q⟩ => exact q.elim
  | .cont, ⟨_, _, _, q⟩ => exact q.elim
/-- THE RULE for a def that raises nothing -/
theorem okG {x qual : Str} {st : Stmt} {f : Addr} {fd : FuncData} {N ps : List Str} {lv : Nat} {wp : DWP} {t : DTS} (F : Fun K x qual st f fd) (S : FnScope N ps (defScope st)) (len : ∀ xs s k ke, wp xs s k ke → xs.length = ps.length)
    (walk : ∀ (cdv : Value) (A : Around) (outer : List Env) (s : Shared) (H : Hp) (E : XK), Room lv (cxOf CX0 P w K mg base N qual (defScope st) f cdv A outer s H E).A → (cxOf CX0 P w K mg base N qual (defScope st) f cdv A outer s H E).A.guards = some [] →
      DSs (cxOf CX0 P w K mg base N qual (defScope st) f cdv A outer s H E).nox (defBody st) t)
    (pure : ∀ xs s k ke, wp xs s k ke → t { nx := fun _ s' => k (.d .none) s', rt := k } (startD N xs) s) : FnG P w K mg base CX0 (lv + 1) f fd ps wp := by
  refine ⟨len, fun A outer s H args us vs Q E hr hg e0 hb r hsp => enter_g (sp := spD K wp) F S (fun vs H Q E q => spD_len len q) hr e0 hb r hsp fun cdv => ⟨_, (walk cdv A outer s H E (hr.deeper _) (guards_deeper _ hg)).nox, ?_⟩⟩
  obtain ⟨fr, s0, xs, k, ke, hs, hx, hw, q, _⟩ := hsp
  refine ⟨fr, startD N xs, s0, _, start_wd hs hx, pure xs s0 k ke hw, ?_, q, ?_, ?_⟩
  · exact fun ρ' st' fr' H' σ' a b c => q _ _ _ _ _ a b c.sto .non
  · exact fun _ _ _ _ _ a => a.elim
  · exact fun _ _ _ _ _ a => a.elim
end
/-! ### the law's end -/
/-- a law's promise: from a list of ints that is only read, True -/
def wpLaw : DWP := fun xs st k _ => ∃ ns : List Int, xs = [.r (ns.map PyData.int)] ∧ (∀ p, st p = none) ∧ ns.length ≤ 63 ∧ (∀ z ∈ ns, Builtin.Int.intBits z ≤ 1048576) ∧ ∀ st', k (.d (.bool true)) st'
theorem ints_all {K : PySem.W.Frag} {fr : Fz} {H : Hp} : ∀ ns : List Int, RpAll K fr H (ns.map V.int) (ns.map PyData.int)
  | [] => .nil
  | n :: r => .cons (.int n) (ints_all r)
/-- the law's call at the heap behind the top -/
theorem law_run {P : Program} {w : World} {K : PySem.W.Frag} {mg mb : Str → Option Value} {lv : Nat} {fa a : Addr} {fd : FuncData} {x : Str} {s : Shared} {vs : List Value} {ns : List Int} (KX : K.In s.heap) (hns : s.heap.Ns mainGlobals mg) (hb : s.heap.Ns builtinsNs mb)
    (hbb : ∀ x : Str, x ≠ "__name__" → mb x = bootBuiltins x) (hlim : s.heap.NoLimit) (hg : s.gens = #[]) (ha : s.heap.get? a = some { cls := .type "list", data := .seq vs.toArray }) (hi : IntsAre vs ns) (hl : ns.length ≤ 63) (hbits : ∀ z ∈ ns, Builtin.Int.intBits z ≤ 1048576) (hr : Room lv callerA)
    (F : ∀ base : Heap, K.In base → base.Ns mainGlobals mg → FnG P w K mg base CX0 lv fa fd [x] wpLaw) (hbind : ∀ (s : Shared) (u : Value), BindsTo s fd ⟨[u], []⟩ [(x, u)]) :
    codeAny (model P w) callerA (.call (.ref fa) ⟨[.ref a], []⟩) (fun r s' => r = .ok (.ret (.bool true)) ∧ OldK s.heap s'.heap ∧ s'.os = s.os ∧ AllBare s'.gens) s := by
  have rv : Vals (ns.map V.int) vs := vals_ints hi
  have lv2 : ns.length = vs.length := by
    have q := rv.length
    rwa [List.length_map] at q
  have small : ns.length ≤ sizeLine := Nat.le_trans hl (by decide)
  -- the script is tracked as it lies, or it is the module's own
  let H : Hp := fun b => if b = a ∧ K.lookup a = none then some (.frz { cls := .type "list", data := .seq vs.toArray } (.lst (ns.map V.int))) else none
  have inv : ∀ {b : Addr} {u : HO}, H b = some u → b = a ∧ K.lookup a = none ∧ u = .frz { cls := .type "list", data := .seq vs.toArray } (.lst (ns.map V.int)) := fun {b u} z => by
    by_cases c : b = a ∧ K.lookup a = none
    · have z' := (if_pos c).symm.trans z
      cases z'
      exact ⟨c.1, c.2, rfl⟩
    · have z' := (if_neg c).symm.trans z
      cases z'
  have free : ∀ {b : Addr}, (b = a → K.lookup a ≠ none) → H b = none := fun {b} z => if_neg fun c => z c.1 c.2
  have ok : HOk P w H s.heap := fun b u z => by
    obtain ⟨rfl, _, rfl⟩ := inv z
    exact ⟨ha, by rw [List.length_map]; exact small, vs, _, rv, ha⟩
  have nsOk : ∀ {b : Addr} {m : Str → Option Value}, s.heap.Ns b m → (hidT s.heap H).Ns b m := fun {b m} n => by
    obtain ⟨o, es, ep, e, d, q⟩ := n
    refine ⟨o, es, ep, hidT_get e (free fun z => ?_), d, q⟩
    rw [z, ha] at e
    cases e
    cases d
  have kOk : K.In (hidT s.heap H) := fun b o e => hidT_get (KX b o e) (free fun z => by
    rw [← z, e]
    simp)
  have md : Mod K mg (hidT s.heap H) := ⟨kOk, nsOk hns, ⟨mb, nsOk hb, hbb⟩, by
    obtain ⟨mc, q1, q2⟩ := hlim
    exact ⟨mc, nsOk q1, q2⟩⟩
  have e0 : Env0 P w K mg (hidT s.heap H) callerA [] s H := ⟨rfl, md, fun _ _ e => of_hidT e, Nat.le_of_eq (hidT_size _ _), trivial, fun b z => (by cases z), ok, .of_eq hg⟩
  have rol : RoL K (fun _ => False) H (.ref a) (ns.map PyData.int) := by
    refine ⟨a, _, rfl, ints_all ns, ?_⟩
    cases e : K.lookup a with
    | none => exact .inl ⟨_, if_pos ⟨rfl, e⟩⟩
    | some o =>
      have q := KX a o e
      rw [ha] at q
      cases q
      exact .inr ⟨_, vs.toArray, _, rfl, rfl, rfl, rfl, by rw [List.size_toArray, ← lv2]; exact small, by simpa using rv⟩
  have sp : spD K wpLaw [.ref a] H (fun v _ => v = .bl true) (fun _ _ _ => False) := by
    refine ⟨fun _ => False, fun _ => none, [.r (ns.map PyData.int)], fun y _ => y = .d (.bool true), fun _ _ => False, ⟨fun _ _ z => (by cases z), fun _ z => z.elim⟩, .cons rol .nil, ⟨ns, rfl, fun _ => rfl, hl, hbits, fun _ => rfl⟩, ?_, qx_none⟩
    rintro y st' fr' H' v rfl _ _ r
    exact rp_bool r
  refine codeAny_mono ((F _ kOk (nsOk hns)).go callerA [] s H _ [.ref a] [.ref a] _ _ hr rfl e0 (hbind s (.ref a)) (.cons rfl .nil) sp) fun r s' z => ?_
  match r, z with
  | .ok (.ret u), ⟨v, H', os, bare, un, ok', ru, q⟩ =>
    obtain rfl : v = .bl true := q
    obtain rfl : u = Value.bool true := ru
    refine ⟨rfl, OldK.of_keep fun b o e => ?_, os, bare⟩
    cases c : H b with
    | none => exact un.keep b o e c (by intro y; cases y) (by simp)
    | some u =>
      obtain ⟨rfl, _, rfl⟩ := inv c
      have e2 := (ok' _ _ (un.frzs _ _ _ c)).1
      rw [ha] at e
      cases e
      exact e2
theorem walk_g {l : PySem.W.OpenLaw} {lv : Nat} {q : Program} {loose : List Str} {XP : (Str → Option Value) → Heap → Prop} {YP : World → Heap → Prop} {d : DefRec} {K : Params → PySem.W.Frag} {x : Str}
    (hn : l.most = some 63) (hdf : d.params.defaults = []) (hr : Room lv callerA) (hY : ∀ (w : World) (h : Heap), YP w h → (K w.params).In h)
    (F : ∀ (w : World) (mg : Str → Option Value) (fa : Addr) (h : Heap), (K w.params).In h → h.Ns mainGlobals mg → mg d.name = some (.ref fa) →
      ∃ fd : FuncData, (∀ (s : Shared) (u : Value), BindsTo s fd ⟨[u], []⟩ [(x, u)]) ∧ ∀ base : Heap, (K w.params).In base → base.Ns mainGlobals mg → FnG l.prog w (K w.params) mg base CX0 lv fa fd [x] wpLaw) :
    PySem.W.WalkO q loose XP YP l.row.toRowW d [] (fun f vs => PySem.call f vs) := by
  refine Att.attach_callB hn hdf fun w s₀ s₁ mg mb fa o pm cd doc a vs ns G Y ho hd hcd hmg hobj hints hlen hbits hg => ?_
  have KX := hY w _ Y
  obtain ⟨fd, hb, hF⟩ := F w mg fa _ KX G.T.g hmg
  exact law_run KX G.T.g G.T.b G.T.builtins G.T.nolimit hg hobj hints hlen hbits hr hF hb
end DL
/-! x[::-1] of lists and of tuples -/
namespace DL
open PySem PySem.Spec PyProof.Rows L2
section
variable {prog : Program} {w : World} {A : Around} {E : Value → Shared → Prop} {s : Shared}
theorem rev_adj (n : Nat) : Builtin.Slice.sliceAdjust none none (-1) (n : Int) = ((n : Int) - 1, -1) := by
  unfold Builtin.Slice.sliceAdjust
  simp
theorem rev_places (n : Nat) : Builtin.Slice.slicePlaces ((n : Int) - 1) (-1) (-1) = n := by
  unfold Builtin.Slice.slicePlaces
  have h : ¬ ((-1 : Int) > 0) := by omega
  simp only [h, if_false, Int.neg_neg, Int.ediv_one]
  split <;> omega
theorem rev_pick (xs : Array Value) : ((List.range xs.size).filterMap fun (m : Nat) => xs[((xs.size : Int) - 1 + (m : Int) * (-1)).toNat]?).toArray = xs.toList.reverse.toArray := by
  have e : ((List.range xs.size).filterMap fun (m : Nat) => xs[((xs.size : Int) - 1 + (m : Int) * (-1)).toNat]?) = xs.toList.reverse := by
    have h1 : ((List.range xs.size).filterMap fun (m : Nat) => xs[((xs.size : Int) - 1 + (m : Int) * (-1)).toNat]?) = ((List.range xs.size).map fun m => xs.size - 1 - m).filterMap fun m => xs[m]? := by
      rw [List.filterMap_map]
      congr 1
      funext m
      have e2 : ((xs.size : Int) - 1 + (m : Int) * (-1)).toNat = xs.size - 1 - m := by omega
      show xs[((xs.size : Int) - 1 + (m : Int) * (-1)).toNat]? = xs[xs.size - 1 - m]?
      rw [e2]
    rw [h1, PySem.W.krv_range, List.filterMap_reverse, PySem.W.krv_all]
  rw [e]
theorem getItem_tuple_rev {t sl : Addr} {items : Array Value} {vs : Value} {Q : Value → Shared → Prop} (ht : IsTup s.heap t items) (hs : s.heap.IsSliceOf sl .none .none vs) (ps : IsPart vs (some (-1)))
    (h : Q (.ref s.heap.objs.size) { s with heap := s.heap.push { cls := .type "tuple", data := .seq items.toList.reverse.toArray } }) (hsz : items.size ≤ sizeLine) : wpAny (model prog w) A (getItem (.ref t) (.ref sl)) Q E s := by
  have hfit : sizeOk (.seq items.toList.reverse.toArray) := by
    show items.toList.reverse.toArray.size ≤ sizeLine
    rw [List.size_toArray, List.length_reverse, Array.length_toList]
    exact hsz
  obtain ⟨os, hos, hcs, hds⟩ := id hs
  have isSl : s.TypeIs (.ref sl) "slice" := ⟨os, hos, hcs⟩
  unfold getItem
  try with_reducible refine wpAny_holding ?_
  first | refine wpAny_bind (wpAny_pure ?_) | skip
  refine wpAny_bind (wpAny_sequenceKey ht.typeIs (by decide) ?_)
  refine wpAny_bind (wpAny_callSpecial?_slot (name := Str.ofString "__getitem__") ht.typeIs slot_tuple_getitem (wpAny_call_entry slot_tuple_getitem ht.typeIs entry_tuple_getitem ?_ (args_tuple_getitem _ _)))
  show wpAny _ _ (Builtin.Tuple.tupleItemsOf (.ref t) >>= _) _ _ s
  refine wpAny_bind (tupleItemsOf_ ht (wpAny_bind (wpAny_typeOf isSl ?_)))
  rw [if_pos (by decide)]
  have inner : ∀ {A : Around} {E : Value → Shared → Prop} {Q : Int × Int × Nat → Shared → Prop}, Q ((items.size : Int) - 1, -1, items.size) s → wpAny (model prog w) A (Builtin.Slice.sliceApplied (.ref sl) (pure (items.size : Int))) Q E s := fun {A E Q} hq => by
    unfold Builtin.Slice.sliceApplied Builtin.Slice.sliceFields
    refine wpAny_bind (wpAny_bind (wpAny_field hos hds (x := .none) rfl (wpAny_bind (wpAny_field hos hds (x := .none) rfl (wpAny_bind (wpAny_field hos hds (x := vs) rfl (wpAny_pure ?_)))))))
    refine wpAny_bind (HT.slicePart_ ps ?_)
    show wpAny _ _ (if ((-1 : Int) == 0) = true then _ else _) _ _ s
    rw [if_neg (by decide)]
    refine wpAny_bind (slicePart_none (wpAny_bind (slicePart_none (wpAny_bind (wpAny_pure ?_)))))
    show wpAny _ _ (match Builtin.Slice.sliceAdjust none none (-1) (items.size : Int) with | (lo, hi) => pure (lo, (-1 : Int), Builtin.Slice.slicePlaces lo hi (-1))) _ _ s
    rw [rev_adj]
    show wpAny _ _ (pure ((items.size : Int) - 1, (-1 : Int), Builtin.Slice.slicePlaces ((items.size : Int) - 1) (-1) (-1))) _ _ s
    rw [rev_places]
    exact wpAny_pure hq
  refine wpAny_bind (inner ?_)
  have no : ¬ ((((items.size : Int) - 1) == 0 && (-1 : Int) == 1 && items.size == items.size) = true) := by
    intro q
    rw [Bool.and_eq_true, Bool.and_eq_true] at q
    exact absurd q.1.2 (by decide)
  show wpAny _ _ (if (((items.size : Int) - 1) == 0 && (-1 : Int) == 1 && items.size == items.size) = true then _ else _) _ _ s
  rw [if_neg no, rev_pick]
  first
    | exact wpAny_bind (m := Builtin.Tuple.tupleExact _) (wpAny_newObj_type (wpAny_pure ⟨_, rfl, wpAny_pure h⟩) hfit)
    | exact wpAny_bind (m := Builtin.Tuple.tupleExact _) (wpAny_newObj_type (wpAny_bind (wpAny_pure (wpAny_pure ⟨_, rfl, wpAny_pure h⟩))) hfit)
    | exact wpAny_bind (wpAny_bind (m := Builtin.Tuple.tupleExact _) (wpAny_newObj_type (wpAny_pure (wpAny_pure ⟨_, rfl, wpAny_pure h⟩)) hfit))
    | exact wpAny_bind (wpAny_bind (m := Builtin.Tuple.tupleExact _) (wpAny_newObj_type (wpAny_pure ⟨_, rfl, wpAny_pure h⟩) hfit))
end
def tRevU (K : PySem.W.Frag) (te : TE) : TE := fun σ H Q => te σ H fun x H1 => ∃ a xs, x = .ref a ∧ ((SqL K H1 a xs ∧ ∀ p, H1 p = none → Q (.ref p) (upd H1 p (.lst xs.reverse))) ∨ (SqT K H1 a xs ∧ ∀ p, H1 p = none → Q (.ref p) (upd H1 p (.tup xs.reverse))))
theorem pe_revU {X : Cx} {e : Expr} {te : TE} {k : Nat} {p1 p2 p3 pos : Pos} (he : PE X e te) : PE X (.Subscript e (.Slice none none (some (.UnaryOp .USub (.Constant (.int 1) k p1) p2)) p3) pos) (tRevU X.K te) := by
  constructor
  intro pins s σ H Q I h
  refine Subscript_ (thn (he.run pins s σ H _ I h) fun v s1 z1 => ?_)
  obtain ⟨x, H1, I1, r1, a, xs, rfl, q⟩ := z1
  obtain rfl : v = Value.ref a := r1
  have step : PO X (some (.UnaryOp .USub (.Constant (.int 1) k p1) p2)) (tPart (tUn (rU fun i => .int (-i)) (tC (.int 1)))) := po_some (pe_un un_neg pe_int)
  refine wpAny_Slice (thn (po_none.run pins s1 σ H1 (fun o H2 => o = none ∧ H2 = H1) I1 ⟨rfl, rfl⟩) fun vl s2 ⟨l, H2, I2, pl, el, e2⟩ => ?_)
  subst el e2
  refine thn (po_none.run pins s2 σ H2 (fun o H3 => o = none ∧ H3 = H2) I2 ⟨rfl, rfl⟩) fun vu s3 ⟨u, H3, I3, pu, eu, e3⟩ => ?_
  subst eu e3
  refine thn (step.run pins s3 σ H3 (fun o H4 => o = some (-1) ∧ H4 = H3) I3 ⟨1, rfl, -1, rfl, rfl, rfl⟩) fun vs s4 ⟨o, H4, I4, ps, eo, e4⟩ => ?_
  subst eo e4
  have I5 : Inv X pins σ H4 { s4 with heap := s4.heap.push { cls := .type "slice", data := .fields #[vl, vu, vs] } } := I4.kept (t' := s4.toks) fun b ob z => Heap.get?_push_of_some _ z
  have new : ∀ o : HO, ∀ ob : Obj, ObjOk X.prog X.w (upd H4 ((s4.heap.push { cls := .type "slice", data := .fields #[vl, vu, vs] }).objs.size) o) ((s4.heap.push { cls := .type "slice", data := .fields #[vl, vu, vs] }).push ob) ((s4.heap.push { cls := .type "slice", data := .fields #[vl, vu, vs] }).objs.size) o →
      Q (.ref ((s4.heap.push { cls := .type "slice", data := .fields #[vl, vu, vs] }).objs.size)) (upd H4 ((s4.heap.push { cls := .type "slice", data := .fields #[vl, vu, vs] }).objs.size) o) →
      EP X pins σ Q (.ref ((s4.heap.push { cls := .type "slice", data := .fields #[vl, vu, vs] }).objs.size)) { s4 with heap := (s4.heap.push { cls := .type "slice", data := .fields #[vl, vu, vs] }).push ob } := fun o ob ho hq =>
    ⟨.ref _, _, I5.laid (t' := s4.toks) (fun b u z => Heap.get?_push_of_some _ z) (Nat.le_refl _) ho, rfl, hq⟩
  rcases q with ⟨hx, q⟩ | ⟨hx, q⟩
  · obtain ⟨its, r, ht, hz⟩ := I5.list hx
    have hlen := r.length
    show wpAny (model X.prog X.w) X.A (subscriptTail e (.Slice none none (some (.UnaryOp .USub (.Constant (.int 1) k p1) p2)) p3) (.ref a) (.ref s4.heap.objs.size)) _ X.xe _
    refine tail_any (ops := [.ref a, .ref s4.heap.objs.size]) ht.isList.typeIs (PySem.slot_list_getitem.lookup) ?_ (by with_unfolding_all rfl)
    refine wpAny_getItem_list_slice ht.isList (Heap.IsSliceOf.new _ vl vu vs) pl pu ps (by decide) ?_ (by rw [List.size_toArray]; omega)
    rw [PySem.W.krv_pick]
    exact new (.lst xs.reverse) _ ⟨by rw [List.length_reverse]; exact hz, _, 0, r.reverse, Heap.get?_push_size _ rfl⟩ (q _ (I5.hok.fresh (Nat.le_refl _)))
  · obtain ⟨its, r, ht, hz⟩ := I5.tuple hx
    have hlen := r.length
    show wpAny (model X.prog X.w) X.A (subscriptTail e (.Slice none none (some (.UnaryOp .USub (.Constant (.int 1) k p1) p2)) p3) (.ref a) (.ref s4.heap.objs.size)) _ X.xe _
    refine tail_any (ops := [.ref a, .ref s4.heap.objs.size]) ht.typeIs (slot_tuple_getitem.lookup) ?_ (by with_unfolding_all rfl)
    cases pl
    cases pu
    refine getItem_tuple_rev ht (Heap.IsSliceOf.new _ .none .none vs) ps ?_ (by rw [List.size_toArray]; omega)
    exact new (.tup xs.reverse) _ ⟨by rw [List.length_reverse]; exact hz, _, r.reverse, IsTup.new _ _⟩ (q _ (I5.hok.fresh (Nat.le_refl _)))
def dRev (te : DTE) : DTE := fun ρ st k => te ρ st fun x st1 => match x with
  | .d (.tuple ds) => k (.d (.tuple ds.reverse)) st1
  | x => (match lstOf st1 x with
    | some xs => dNew xs.reverse st1 k
    | none => False)
theorem RpAll.rev {K : PySem.W.Frag} {fr : Fz} {H : Hp} : ∀ {vs : List V} {ds : List PyData}, RpAll K fr H vs ds → RpAll K fr H vs.reverse ds.reverse
  | _, _, .nil => .nil
  | _, _, .cons a b => by
    rw [List.reverse_cons, List.reverse_cons]
    exact (RpAll.rev b).app (.cons a .nil)
theorem d_rev {X : Cx} {e : Expr} {te : DTE} {k : Nat} {p1 p2 p3 pos : Pos} (he : DE X e te) : DE X (.Subscript e (.Slice none none (some (.UnaryOp .USub (.Constant (.int 1) k p1) p2)) p3) pos) (dRev te) := pe_imp (pe_revU he) fun σ H Q h1 => by
  obtain ⟨fr, ρ, st, k, w, h, q⟩ := h1
  refine ⟨fr, ρ, st, _, w, h, fun x st1 fr1 H1 v k1 e1 s1 r1 => ?_⟩
  split at k1
  · obtain ⟨a, ws, rfl, h1, h2⟩ := rp_tupv r1
    exact ⟨a, ws, rfl, .inr ⟨h1, fun p n => (q.at e1).tup s1 h2.rev k1 n⟩⟩
  · split at k1
    · next xs hx =>
      obtain ⟨a, ws, rfl, hs, hr⟩ := lst_at s1 r1 hx
      exact ⟨a, ws, rfl, .inl ⟨hs, fun p n => (q.at e1).lst s1 hr.rev k1 n⟩⟩
    · exact k1.elim
end DL
namespace DL
open PySem PySem.Spec PyProof.Rows L2
theorem s_par (i j : Nat) {X : Cx} {x y : Str} {a b : Expr} {ta : DTA} {px py pt pos : Pos} {kt k2 pt2} (hc : X.calm = true) (hN : X.N.Nodup) (ha : DA X [a, b] ta) (hi : X.N[i]? = some x := by rfl) (hj : X.N[j]? = some y := by rfl) (hij : i ≠ j := by decide)
    (hx : X.env.scope.names.lookup x = some .local := by rfl) (hy : X.env.scope.names.lookup y = some .local := by rfl)
    (hw : swappedStores [.Tuple [.Name x px, .Name y py] kt pt] (.Tuple [a, b] k2 pt2) X.env = pure (some [x, y]) := by rfl)
    (hs : swapsWithSole [.Tuple [.Name x px, .Name y py] kt pt] (.Tuple [a, b] k2 pt2) pos.line X.env = pure false := by rfl) :
    DS X (.Assign [.Tuple [.Name x px, .Name y py] kt pt] (.Tuple [a, b] k2 pt2) pos) (dPar i j ta) := ps_imp (ps_par hc hN hi hj hij hx hy ha hw hs) fun _ _ _ => le_par
section
variable {X : Cx} {elt tg iter : Expr} {ifs : List Expr} {scope : Scope} {pos : Pos} {wi : DTI} {g : DTG} {tt : DTT} {te : DTE}
theorem s_setLc (i : Nat) {y : Str} {py spos : Pos} (own : List (Str × Nat)) (hc : X.calm = true) (hN : X.N.Nodup) (hi : DI X tg iter wi) (ok : BlkOk X.N X.env.scope scope own)
    (hg : ∀ (s : Shared) (H : Hp) (C : Addr) (cl : List (Str × Addr)) (fp : List Addr), DG (X.blk s H scope (compEnvC scope cl C X.env) fp) (own.map (·.2)) tg g) (ht : ∀ (s : Shared) (H : Hp) (C : Addr) (cl : List (Str × Addr)) (fp : List Addr), DTs (X.blk s H scope (compEnvC scope cl C X.env) fp) ifs tt)
    (he : ∀ (s : Shared) (H : Hp) (C : Addr) (cl : List (Str × Addr)) (fp : List Addr), DE (X.blk s H scope (compEnvC scope cl C X.env) fp) elt te) (hs : ∀ x, foldedSetIterable iter X.env x = pure x := by intro _; rfl)
    (hy : X.N[i]? = some y := by rfl) (hyl : X.env.scope.names.lookup y = some .local := by rfl) (hsw : swapsWith (.ListComp elt [⟨tg, iter, ifs, 0⟩] scope pos) (some (.Name y py)) spos.line X.env = pure true := by exact sw_true rfl rfl rfl (by decide +kernel)) :
    DS X (.Assign [.Name y py] (.ListComp elt [⟨tg, iter, ifs, 0⟩] scope pos) spos) (dAsg (dLc wi g tt te (own.map (·.2))) (gN i)) := ps_imp (ps_setLc hc hN hy hyl hsw hi ok hg ht he hs) fun _ _ _ => le_setLc
end
/-! promises by the number of arguments -/
abbrev KX := XV → Store → Prop
def wp0 (f : Store → KD → KX → Prop) : DWP := fun xs st k ke => match xs with
  | [] => f st k ke
  | _ => False
def wp1 (f : Sl → Store → KD → KX → Prop) : DWP := fun xs st k ke => match xs with
  | [a] => f a st k ke
  | _ => False
def wp2 (f : Sl → Sl → Store → KD → KX → Prop) : DWP := fun xs st k ke => match xs with
  | [a, b] => f a b st k ke
  | _ => False
def wp3 (f : Sl → Sl → Sl → Store → KD → KX → Prop) : DWP := fun xs st k ke => match xs with
  | [a, b, c] => f a b c st k ke
  | _ => False
def wp4 (f : Sl → Sl → Sl → Sl → Store → KD → KX → Prop) : DWP := fun xs st k ke => match xs with
  | [a, b, c, d] => f a b c d st k ke
  | _ => False
theorem wp0_of {f xs st k ke} (h : wp0 f xs st k ke) : xs = [] ∧ f st k ke := by
  unfold wp0 at h
  split at h
  · exact ⟨rfl, h⟩
  · exact h.elim
theorem wp1_of {f xs st k ke} (h : wp1 f xs st k ke) : ∃ a, xs = [a] ∧ f a st k ke := by
  unfold wp1 at h
  split at h
  · exact ⟨_, rfl, h⟩
  · exact h.elim
theorem wp2_of {f xs st k ke} (h : wp2 f xs st k ke) : ∃ a b, xs = [a, b] ∧ f a b st k ke := by
  unfold wp2 at h
  split at h
  · exact ⟨_, _, rfl, h⟩
  · exact h.elim
theorem wp3_of {f xs st k ke} (h : wp3 f xs st k ke) : ∃ a b c, xs = [a, b, c] ∧ f a b c st k ke := by
  unfold wp3 at h
  split at h
  · exact ⟨_, _, _, rfl, h⟩
  · exact h.elim
theorem wp4_of {f xs st k ke} (h : wp4 f xs st k ke) : ∃ a b c d, xs = [a, b, c, d] ∧ f a b c d st k ke := by
  unfold wp4 at h
  split at h
  · exact ⟨_, _, _, _, rfl, h⟩
  · exact h.elim
theorem len0 {f : Store → KD → KX → Prop} : ∀ xs st k ke, wp0 f xs st k ke → xs.length = 0 := fun _ _ _ _ h => by
  obtain ⟨rfl, _⟩ := wp0_of h
  rfl
theorem len1 {f : Sl → Store → KD → KX → Prop} : ∀ xs st k ke, wp1 f xs st k ke → xs.length = 1 := fun _ _ _ _ h => by
  obtain ⟨_, rfl, _⟩ := wp1_of h
  rfl
theorem len2 {f : Sl → Sl → Store → KD → KX → Prop} : ∀ xs st k ke, wp2 f xs st k ke → xs.length = 2 := fun _ _ _ _ h => by
  obtain ⟨_, _, rfl, _⟩ := wp2_of h
  rfl
theorem len3 {f : Sl → Sl → Sl → Store → KD → KX → Prop} : ∀ xs st k ke, wp3 f xs st k ke → xs.length = 3 := fun _ _ _ _ h => by
  obtain ⟨_, _, _, rfl, _⟩ := wp3_of h
  rfl
theorem len4 {f : Sl → Sl → Sl → Sl → Store → KD → KX → Prop} : ∀ xs st k ke, wp4 f xs st k ke → xs.length = 4 := fun _ _ _ _ h => by
  obtain ⟨_, _, _, _, rfl, _⟩ := wp4_of h
  rfl
theorem lenLaw : ∀ xs st k ke, wpLaw xs st k ke → xs.length = 1 := fun _ _ _ _ h => by
  obtain ⟨_, rfl, _⟩ := h
  rfl
theorem rm180 {k : Nat} {A : Around} (r : Room k A) : A.units + 180 < cLine := by
  have := r.un
  omega
theorem none_slr {K : PySem.W.Frag} : ∀ (fr : Fz) (H : Hp), SlsR K fr H [] [] := fun _ _ => .nil
end DL
/-! zip of two rows, each a list or a tuple, strict or not -/
namespace DL
open PySem PySem.Spec PyProof.Rows L2
def ItAt (t : Bool) (h : Heap) (i a : Addr) (n : Nat) : Prop := match t with
  | true => h.IsTupleIter i a n
  | false => h.IsListIter i a n
def SqAt (t : Bool) (h : Heap) (a : Addr) (xs : Array Value) : Prop := match t with
  | true => h.IsTuple a xs
  | false => h.IsList a xs
theorem ItAt.off {h h' : Heap} {i a z : Addr} {n : Nat} : ∀ {t : Bool}, ItAt t h i a n → Heap.ExtBut z h h' → i ≠ z → ItAt t h' i a n
  | true, x, e, k => Heap.IsTupleIter.extBut x e k
  | false, x, e, k => Heap.IsListIter.extBut x e k
theorem SqAt.off {h h' : Heap} {a z : Addr} {xs : Array Value} : ∀ {t : Bool}, SqAt t h a xs → Heap.ExtBut z h h' → a ≠ z → SqAt t h' a xs
  | true, x, e, k => Heap.IsTuple.extBut x e k
  | false, x, e, k => Heap.IsList.extBut x e k
theorem ItAt.at {h h' : Heap} {i a : Addr} {n : Nat} : ∀ {t : Bool}, ItAt t h i a n → (∀ o, h.get? i = some o → h'.get? i = some o) → ItAt t h' i a n
  | true, x, e => Heap.IsTupleIter.at x e
  | false, x, e => Heap.IsListIter.at x e
theorem ItAt.here {h : Heap} {i a : Addr} {n : Nat} : ∀ {t : Bool}, ItAt t h i a n → ∃ o, h.get? i = some o ∧ ∀ v, o.data ≠ .cell v
  | true, ⟨o, e, _, d⟩ => ⟨o, e, fun v q => by rw [d] at q; cases q⟩
  | false, ⟨o, e, _, d⟩ => ⟨o, e, fun v q => by rw [d] at q; cases q⟩
section
variable {prog : Program} {w : World} {A : Around} {E : Value → Shared → Prop} {s : Shared}
theorem nx_item {it l : Addr} {i : Nat} {items : Array Value} {x : Value} {Q : Value → Shared → Prop} : ∀ {t : Bool}, ItAt t s.heap it l i → SqAt t s.heap l items → items[i]? = some x →
    (∀ h', ItAt t h' it l (i + 1) → Heap.SameBut it s.heap h' → Q x { s with heap := h' }) → wpAny (model prog w) A (Builtin.SmallTypes.nextOf (.ref it)) Q E s
  | true, a, b, c, d => RZ.nextOf_tuple_item a b c d
  | false, a, b, c, d => wpAny_nextOf_list_item a b c d
theorem nx_end {it l : Addr} {i : Nat} {items : Array Value} {Q : Value → Shared → Prop} (hh : A.handled = none) : ∀ {t : Bool}, ItAt t s.heap it l i → SqAt t s.heap l items → items[i]? = none →
    (∀ h' e, Heap.ExtBut it s.heap h' → (∃ o, h'.get? e = some o ∧ o.cls = .type "StopIteration") → E (.ref e) { s with heap := h' }) → wpAny (model prog w) A (Builtin.SmallTypes.nextOf (.ref it)) Q E s
  | true, a, b, c, d => RZ.nextOf_tuple_end hh a b c d
  | false, a, b, c, d => wpAny_nextOf_list_end hh a b c d
theorem noe_item {it l : Addr} {i : Nat} {items : Array Value} {x : Value} {Q : Option Value → Shared → Prop} {t : Bool} (a : ItAt t s.heap it l i) (b : SqAt t s.heap l items) (c : items[i]? = some x)
    (d : ∀ h', ItAt t h' it l (i + 1) → Heap.SameBut it s.heap h' → Q (some x) { s with heap := h' }) : wpAny (model prog w) A (Builtin.SmallTypes.nextOrEnd (.ref it)) Q E s := by
  unfold Builtin.SmallTypes.nextOrEnd
  exact wpAny_bind (wpAny_attempt (nx_item a b c fun h' e f => wpAny_pure (d h' e f)))
theorem noe_end {it l : Addr} {i : Nat} {items : Array Value} {Q : Option Value → Shared → Prop} {t : Bool} (hh : A.handled = none) (a : ItAt t s.heap it l i) (b : SqAt t s.heap l items) (c : items[i]? = none)
    (d : ∀ h', Heap.ExtBut it s.heap h' → Q none { s with heap := h' }) : wpAny (model prog w) A (Builtin.SmallTypes.nextOrEnd (.ref it)) Q E s := by
  unfold Builtin.SmallTypes.nextOrEnd
  refine wpAny_bind (wpAny_attempt (nx_end hh a b c fun h' e f ⟨o, ho, hc⟩ => ?_))
  exact wpAny_bind (wpAny_isInstance (T := "StopIteration") (b := true) ⟨o, ho, hc⟩ isSubtype_stop (wpAny_pure (d h' f)))
/-- a zip's cell; b: strict -/
abbrev IsZ (b : Bool) (h : Heap) (z TI TO : Addr) (f0 : Value) : Prop := h.get? z = some { cls := .type "zip", dict := none, data := .fields #[f0, .bool false, .bool b, .ref TI, .ref TO], slots := #[] }
theorem zb_item {b t1 t2 : Bool} {z TI TO i1 i2 l1 l2 : Addr} {k1 k2 : Nat} {xs ys : Array Value} {x y a c : Value} {Q : Value → Shared → Prop} (D : ZipApart z TI TO i1 i2 l1 l2)
    (hz : IsZ b s.heap z TI TO .none) (hTI : IsPair s.heap TI (.ref i1) (.ref i2)) (hTO : IsPair s.heap TO a c)
    (h1 : ItAt t1 s.heap i1 l1 k1) (h2 : ItAt t2 s.heap i2 l2 k2) (hl1 : SqAt t1 s.heap l1 xs) (hl2 : SqAt t2 s.heap l2 ys) (hx : xs[k1]? = some x) (hy : ys[k2]? = some y)
    (hQ : ∀ h', IsZ b h' z TI TO (rawInt s.heap.objs.size) → IsPair h' TO x y → ItAt t1 h' i1 l1 (k1 + 1) → ItAt t2 h' i2 l2 (k2 + 1) → IsPair h' s.heap.objs.size x y →
      (∀ c o, c ≠ z → c ≠ TO → c ≠ i1 → c ≠ i2 → s.heap.get? c = some o → h'.get? c = some o) → Q (.ref s.heap.objs.size) { s with heap := h' }) :
    wpAny (model prog w) A (Builtin.«zip.__next__» ⟨[.ref z], []⟩) (fun fin s' => ∃ v, fin = .done (.ret v) ∧ Q v s') E s := by
  (show wpAny _ _ (field (.ref z) 2 >>= _) _ _ _); refine wpAny_bind (wpAny_field hz rfl (x := .bool b) rfl ?_)
  (show wpAny _ _ (field (.ref z) 3 >>= _) _ _ _); refine wpAny_bind (wpAny_field hz rfl (x := .ref TI) rfl (wpAny_bind (wpAny_seqItems hTI rfl ?_)))
  (show wpAny _ _ (Builtin.SmallTypes.ownedTupleIsFree (.ref z) >>= _) _ _ _); refine wpAny_bind ?_
  unfold Builtin.SmallTypes.ownedTupleIsFree; refine wpAny_bind (wpAny_field hz rfl (x := .none) rfl (wpAny_pure ?_))
  simp only [if_true]; refine wpAny_bind (wpAny_rule (wpAny_bind (wpAny_field hz rfl (x := .ref TO) rfl (wpAny_bind (wpAny_setField_rec hz (by simp) fun h₁ hz₁ hs₁ => ?_)))))
  replace hz₁ : IsZ b h₁ z TI TO .ellipsis := hz₁
  refine wpAny_bind ?_; simp only [List.zipIdx_cons, List.zipIdx_nil, List.forIn_cons, List.forIn_nil]
  have step1 : ∀ {R : Option Value → Shared → Prop} {E' : Value → Shared → Prop} {A' : Around}, (∀ h₂, ItAt t1 h₂ i1 l1 (k1 + 1) → Heap.SameBut i1 h₁ h₂ → R (some x) { s with heap := h₂ }) → (∀ m : Sem (Option Value), m = (if (Value.bool b == Value.bool true) = true then Builtin.SmallTypes.nextOrEnd (.ref i1) else do return some (← Builtin.SmallTypes.nextOf (.ref i1))) → wpAny (model prog w) A' m R E' { s with heap := h₁ }) := by
    rintro R E' A' hR m rfl
    cases b with
    | true => show wpAny _ _ (Builtin.SmallTypes.nextOrEnd (.ref i1)) _ _ _; exact noe_item (h1.off hs₁.extBut D.i1z) (hl1.off hs₁.extBut D.l1z) hx hR
    | false => show wpAny _ _ (Builtin.SmallTypes.nextOf (.ref i1) >>= _) _ _ _; exact wpAny_bind (nx_item (h1.off hs₁.extBut D.i1z) (hl1.off hs₁.extBut D.l1z) hx fun h₂ p q => wpAny_pure (hR h₂ p q))
  refine wpAny_bind (wpAny_bind (wpAny_onRaise (step1 (fun h₂ h1₂ hs₂ => ?_) _ rfl)))
  have hTO₂ : IsPair h₂ TO a c := hs₂.extBut _ _ D.TOi1 (hs₁.extBut _ _ D.TOz hTO)
  refine wpAny_bind (wpAny_seqItems hTO₂ rfl (wpAny_bind (wpAny_updateSeq_pair hTO₂ fun h₃ hTO₃ hs₃ => ?_)))
  replace hTO₃ : IsPair h₃ TO x c := hTO₃
  refine wpAny_bind (wpAny_letGo (wpAny_pure ?_))
  have step2 : ∀ {R : Option Value → Shared → Prop} {E' : Value → Shared → Prop} {A' : Around}, (∀ h₄, ItAt t2 h₄ i2 l2 (k2 + 1) → Heap.SameBut i2 h₃ h₄ → R (some y) { s with heap := h₄ }) → (∀ m : Sem (Option Value), m = (if (Value.bool b == Value.bool true) = true then Builtin.SmallTypes.nextOrEnd (.ref i2) else do return some (← Builtin.SmallTypes.nextOf (.ref i2))) → wpAny (model prog w) A' m R E' { s with heap := h₃ }) := by
    rintro R E' A' hR m rfl
    have hi := ((h2.off hs₁.extBut D.i2z).off hs₂.extBut D.i12.symm).off hs₃.extBut D.TOi2.symm
    have hl := ((hl2.off hs₁.extBut D.l2z).off hs₂.extBut D.l2i1).off hs₃.extBut D.l2TO
    cases b with
    | true => show wpAny _ _ (Builtin.SmallTypes.nextOrEnd (.ref i2)) _ _ _; exact noe_item (s := { s with heap := h₃ }) hi hl hy hR
    | false => show wpAny _ _ (Builtin.SmallTypes.nextOf (.ref i2) >>= _) _ _ _; exact wpAny_bind (nx_item (s := { s with heap := h₃ }) hi hl hy fun h₂ p q => wpAny_pure (hR h₂ p q))
  refine wpAny_bind (wpAny_bind (wpAny_onRaise (step2 (fun h₄ h2₄ hs₄ => ?_) _ rfl)))
  have hTO₄ : IsPair h₄ TO x c := hs₄.extBut _ _ D.TOi2 hTO₃
  refine wpAny_bind (wpAny_seqItems hTO₄ rfl (wpAny_bind (wpAny_updateSeq_pair hTO₄ fun h₅ hTO₅ hs₅ => ?_)))
  replace hTO₅ : IsPair h₅ TO x y := hTO₅
  refine wpAny_bind (wpAny_letGo (wpAny_pure (wpAny_pure (wpAny_bind (wpAny_seqItems hTO₅ rfl (wpAny_bind (wpAny_newTuple ?_)))))))
  have hsz : h₅.objs.size = s.heap.objs.size := ((((hs₅.1.trans hs₄.1).trans hs₃.1).trans hs₂.1).trans hs₁.1)
  have keep5 : ∀ c o, c ≠ z → c ≠ TO → c ≠ i1 → c ≠ i2 → s.heap.get? c = some o → h₅.get? c = some o := fun c o c1 c2 c3 c4 e => hs₅.extBut _ _ c2 (hs₄.extBut _ _ c4 (hs₃.extBut _ _ c2 (hs₂.extBut _ _ c3 (hs₁.extBut _ _ c1 e))))
  have hz5 : IsZ b h₅ z TI TO .ellipsis := hs₅.extBut _ _ D.TOz.symm (hs₄.extBut _ _ D.i2z.symm (hs₃.extBut _ _ D.TOz.symm (hs₂.extBut _ _ D.i1z.symm hz₁)))
  have it1 : ItAt t1 h₅ i1 l1 (k1 + 1) := ((h1₂.off hs₃.extBut D.TOi1.symm).off hs₄.extBut D.i12).off hs₅.extBut D.TOi1.symm
  have it2 : ItAt t2 h₅ i2 l2 (k2 + 1) := h2₄.off hs₅.extBut D.TOi2.symm
  have ltz : z < h₅.objs.size := Heap.lt_size hz5
  (show wpAny _ _ (Builtin.SmallTypes.ownedTupleHandOut (.ref z) (.ref h₅.objs.size) >>= _) _ _ _); refine wpAny_bind ?_
  unfold Builtin.SmallTypes.ownedTupleHandOut
  have hz6 : IsZ b (h₅.push { cls := .type "tuple", data := .seq #[x, y] }) z TI TO .ellipsis := Heap.get?_push_of_some _ hz5
  refine wpAny_bind (wpAny_setField_rec hz6 (by simp) fun h₇ hz₇ hs₇ => ?_)
  replace hz₇ : IsZ b h₇ z TI TO (rawInt h₅.objs.size) := hz₇
  refine wpAny_setField_rec hz₇ (by simp) fun h₈ hz₈ hs₈ => ?_
  replace hz₈ : IsZ b h₈ z TI TO (rawInt h₅.objs.size) := hz₈
  have up : ∀ c o, c ≠ z → h₅.get? c = some o → h₈.get? c = some o := fun c o c1 e => hs₈.extBut _ _ c1 (hs₇.extBut _ _ c1 (Heap.get?_push_of_some _ e))
  have hT8 : IsPair h₈ h₅.objs.size x y := hs₈.extBut _ _ (Nat.ne_of_gt ltz) (hs₇.extBut _ _ (Nat.ne_of_gt ltz) (Heap.get?_push_size _ rfl))
  rw [hsz] at hz₈ hT8
  refine wpAny_pure ⟨_, rfl, ?_⟩
  (show Q (.ref h₅.objs.size) _); rw [hsz]
  exact hQ h₈ hz₈ (up _ _ D.TOz hTO₅) (it1.at fun o e => up _ o D.i1z e) (it2.at fun o e => up _ o D.i2z e) hT8 fun c o c1 c2 c3 c4 e => up c o c1 (keep5 c o c1 c2 c3 c4 e)
def ZEnd (b : Bool) (p q : Prop) : Prop := match b with
  | true => p ∧ q
  | false => p ∨ q
theorem zb_end {b t1 t2 : Bool} {z TI TO i1 i2 l1 l2 : Addr} {k1 k2 : Nat} {xs ys : Array Value} {a c : Value} {Q : Fin → Shared → Prop} (hh : A.handled = none) (D : ZipApart z TI TO i1 i2 l1 l2)
    (hz : IsZ b s.heap z TI TO .none) (hTI : IsPair s.heap TI (.ref i1) (.ref i2)) (hTO : IsPair s.heap TO a c)
    (h1 : ItAt t1 s.heap i1 l1 k1) (h2 : ItAt t2 s.heap i2 l2 k2) (hl1 : SqAt t1 s.heap l1 xs) (hl2 : SqAt t2 s.heap l2 ys) (hend : ZEnd b (xs[k1]? = none) (ys[k2]? = none))
    (hE : ∀ h' e, (∀ c o, c ≠ z → c ≠ TO → c ≠ i1 → c ≠ i2 → s.heap.get? c = some o → h'.get? c = some o) → (∃ o, h'.get? e = some o ∧ o.cls = .type "StopIteration") → E (.ref e) { s with heap := h' }) :
    wpAny (model prog w) A (Builtin.«zip.__next__» ⟨[.ref z], []⟩) Q E s := by
  (show wpAny _ _ (field (.ref z) 2 >>= _) _ _ _); refine wpAny_bind (wpAny_field hz rfl (x := .bool b) rfl ?_)
  (show wpAny _ _ (field (.ref z) 3 >>= _) _ _ _); refine wpAny_bind (wpAny_field hz rfl (x := .ref TI) rfl (wpAny_bind (wpAny_seqItems hTI rfl ?_)))
  (show wpAny _ _ (Builtin.SmallTypes.ownedTupleIsFree (.ref z) >>= _) _ _ _); refine wpAny_bind ?_
  unfold Builtin.SmallTypes.ownedTupleIsFree; refine wpAny_bind (wpAny_field hz rfl (x := .none) rfl (wpAny_pure ?_))
  simp only [if_true]; refine wpAny_bind (wpAny_rule (wpAny_bind (wpAny_field hz rfl (x := .ref TO) rfl (wpAny_bind (wpAny_setField_rec hz (by simp) fun h₁ hz₁ hs₁ => ?_)))))
  replace hz₁ : IsZ b h₁ z TI TO .ellipsis := hz₁
  refine wpAny_bind ?_; simp only [List.zipIdx_cons, List.zipIdx_nil, List.forIn_cons, List.forIn_nil]
  refine wpAny_bind (wpAny_bind (wpAny_onRaise ?_))
  have hi1 := h1.off hs₁.extBut D.i1z
  have hq1 := hl1.off hs₁.extBut D.l1z
  cases b with
  | true =>
    obtain ⟨hx, hy⟩ := hend
    (show wpAny _ _ (Builtin.SmallTypes.nextOrEnd (.ref i1)) _ _ _); refine noe_end hh hi1 hq1 hx fun h₂ hs₂ => ?_
    have hz₂ : IsZ true h₂ z TI TO .ellipsis := hs₂ _ _ D.i1z.symm hz₁
    refine wpAny_bind (wpAny_setField_rec hz₂ (by simp) fun h₃ hz₃ hs₃ => ?_)
    have hi2 := ((h2.off hs₁.extBut D.i2z).off hs₂ D.i12.symm).off hs₃.extBut D.i2z
    have hq2 := ((hl2.off hs₁.extBut D.l2z).off hs₂ D.l2i1).off hs₃.extBut D.l2z
    have up : ∀ c o, c ≠ z → c ≠ i1 → s.heap.get? c = some o → h₃.get? c = some o := fun c o c1 c3 x => hs₃.extBut _ _ c1 (hs₂ _ _ c3 (hs₁.extBut _ _ c1 x))
    refine wpAny_bind ?_
    (show wpAny _ _ (forIn [((.ref i2 : Value), 1)] PUnit.unit _ >>= _) _ _ _); simp only [List.forIn_cons, List.forIn_nil]
    refine wpAny_bind (wpAny_bind (wpAny_bind (noe_end (s := { s with heap := h₃ }) hh hi2 hq2 hy fun h₄ hs₄ => ?_)))
    rw [if_neg (by simp)]; refine wpAny_pure (wpAny_pure (wpAny_bind (wpAny_rule ?_)))
    unfold Builtin.SmallTypes.stopIteration; refine wpAny_bind ?_; simp only [newExc, newTuple]
    refine wpAny_bind (wpAny_newObj_type (wpAny_bind (m := firstArgMember _ _) (wpAny_of_eq (a := Value.none) (by first | rfl | (simp only [firstArgMember]; rfl)) (wpAny_newObj_type ?_ (by size_fits)))) (by size_fits))
    simp only [raiseNew]; refine wpAny_bind (wpAny_handled ?_)
    rw [hh]; refine wpAny_bind (wpAny_pure (wpAny_throw ?_))
    exact hE _ _ (fun c o c1 c2 c3 c4 q => Heap.get?_push_of_some _ (Heap.get?_push_of_some _ (hs₄ _ _ c4 (up c o c1 c3 q)))) ⟨_, Heap.get?_push_size _ rfl, rfl⟩
  | false =>
    (show wpAny _ _ (Builtin.SmallTypes.nextOf (.ref i1) >>= _) _ _ _)
    cases hx : xs[k1]? with
    | none =>
      refine wpAny_bind (nx_end hh hi1 hq1 hx fun h₂ e hs₂ ⟨oe, hoe, hce⟩ => ?_)
      have hz₂ : IsZ false h₂ z TI TO .ellipsis := hs₂ _ _ D.i1z.symm hz₁
      have hez : e ≠ z := fun x => by rw [x, hz₂] at hoe; cases hoe; simp at hce
      exact wpAny_setField_rec hz₂ (by simp) fun h₃ _ hs₃ => hE h₃ e (fun c o c1 _ c3 _ x => hs₃.extBut _ _ c1 (hs₂ _ _ c3 (hs₁.extBut _ _ c1 x))) ⟨oe, hs₃.extBut _ _ hez hoe, hce⟩
    | some x =>
      have hy : ys[k2]? = none := hend.elim (fun h => by rw [hx] at h; cases h) id
      refine wpAny_bind (nx_item hi1 hq1 hx fun h₂ h1₂ hs₂ => wpAny_pure ?_)
      have hTO₂ : IsPair h₂ TO a c := hs₂.extBut _ _ D.TOi1 (hs₁.extBut _ _ D.TOz hTO)
      refine wpAny_bind (wpAny_seqItems hTO₂ rfl (wpAny_bind (wpAny_updateSeq_pair hTO₂ fun h₃ hTO₃ hs₃ => wpAny_bind (wpAny_letGo (wpAny_pure (wpAny_bind (wpAny_bind (wpAny_onRaise ?_))))))))
      (show wpAny _ _ (Builtin.SmallTypes.nextOf (.ref i2) >>= _) _ _ _)
      refine wpAny_bind (nx_end (s := { s with heap := h₃ }) hh (((h2.off hs₁.extBut D.i2z).off hs₂.extBut D.i12.symm).off hs₃.extBut D.TOi2.symm) (((hl2.off hs₁.extBut D.l2z).off hs₂.extBut D.l2i1).off hs₃.extBut D.l2TO) hy fun h₄ e hs₄ ⟨oe, hoe, hce⟩ => ?_)
      have hz₄ : IsZ false h₄ z TI TO .ellipsis := hs₄ _ _ D.i2z.symm (hs₃.extBut _ _ D.TOz.symm (hs₂.extBut _ _ D.i1z.symm hz₁))
      have hez : e ≠ z := fun x => by rw [x, hz₄] at hoe; cases hoe; simp at hce
      exact wpAny_setField_rec hz₄ (by simp) fun h₅ _ hs₅ => hE h₅ e (fun c o c1 c2 c3 c4 x => hs₅.extBut _ _ c1 (hs₄ _ _ c4 (hs₃.extBut _ _ c2 (hs₂.extBut _ _ c3 (hs₁.extBut _ _ c1 x))))) ⟨oe, hs₅.extBut _ _ hez hoe, hce⟩
theorem pn_item {b t1 t2 : Bool} {z TI TO i1 i2 l1 l2 : Addr} {k1 k2 : Nat} {xs ys : Array Value} {x y a c : Value} {Q : Option Value → Shared → Prop} (D : ZipApart z TI TO i1 i2 l1 l2)
    (hz : IsZ b s.heap z TI TO .none) (hTI : IsPair s.heap TI (.ref i1) (.ref i2)) (hTO : IsPair s.heap TO a c)
    (h1 : ItAt t1 s.heap i1 l1 k1) (h2 : ItAt t2 s.heap i2 l2 k2) (hl1 : SqAt t1 s.heap l1 xs) (hl2 : SqAt t2 s.heap l2 ys) (hx : xs[k1]? = some x) (hy : ys[k2]? = some y)
    (hQ : ∀ h', IsZ b h' z TI TO (rawInt s.heap.objs.size) → IsPair h' TO x y → ItAt t1 h' i1 l1 (k1 + 1) → ItAt t2 h' i2 l2 (k2 + 1) → IsPair h' s.heap.objs.size x y →
      (∀ c o, c ≠ z → c ≠ TO → c ≠ i1 → c ≠ i2 → s.heap.get? c = some o → h'.get? c = some o) → Q (some (.ref s.heap.objs.size)) { s with heap := h' }) :
    wpAny (model prog w) A (pyNext (.ref z)) Q E s := by
  have hT : s.TypeIs (.ref z) "zip" := ⟨_, hz, rfl⟩
  unfold pyNext; exact wpAny_bind (wpAny_attempt (wpAny_callSpecial?_slot (name := Str.ofString "__next__") hT F.slot_zip_next (wpAny_call_entry F.slot_zip_next hT F.entry_zip_next
    (zb_item D hz hTI hTO h1 h2 hl1 hl2 hx hy fun h' a1 a2 a3 a4 a5 a6 => wpAny_pure (hQ h' a1 a2 a3 a4 a5 a6)) (F.args_zip_next_1 _))))
theorem pn_end {b t1 t2 : Bool} {z TI TO i1 i2 l1 l2 : Addr} {k1 k2 : Nat} {xs ys : Array Value} {a c : Value} {Q : Option Value → Shared → Prop} (hh : A.handled = none) (D : ZipApart z TI TO i1 i2 l1 l2)
    (hz : IsZ b s.heap z TI TO .none) (hTI : IsPair s.heap TI (.ref i1) (.ref i2)) (hTO : IsPair s.heap TO a c)
    (h1 : ItAt t1 s.heap i1 l1 k1) (h2 : ItAt t2 s.heap i2 l2 k2) (hl1 : SqAt t1 s.heap l1 xs) (hl2 : SqAt t2 s.heap l2 ys) (hend : ZEnd b (xs[k1]? = none) (ys[k2]? = none))
    (hQ : ∀ h', (∀ c o, c ≠ z → c ≠ TO → c ≠ i1 → c ≠ i2 → s.heap.get? c = some o → h'.get? c = some o) → Q none { s with heap := h' }) : wpAny (model prog w) A (pyNext (.ref z)) Q E s := by
  have hT : s.TypeIs (.ref z) "zip" := ⟨_, hz, rfl⟩
  unfold pyNext; refine wpAny_bind (wpAny_attempt (wpAny_callSpecial?_slot (name := Str.ofString "__next__") hT F.slot_zip_next (wpAny_call_entry F.slot_zip_next hT F.entry_zip_next
    (zb_end hh D hz hTI hTO h1 h2 hl1 hl2 hend fun h' e hk ⟨o, ho, hc⟩ => ?_) (F.args_zip_next_1 _))))
  exact wpAny_bind (wpAny_isInstance (T := "StopIteration") (b := true) ⟨o, ho, hc⟩ isSubtype_stop (wpAny_pure (hQ _ hk)))
theorem let_go_zb {b : Bool} {elts : List Expr} {x1} {pos : Pos} {z TI TO T : Addr} {Q : Unit → Shared → Prop} (hz : IsZ b s.heap z TI TO (rawInt T))
    (hQ : ∀ h', IsZ b h' z TI TO .none → Heap.SameBut z s.heap h' → Q () { s with heap := h' }) :
    wpAny (model prog w) A (letOwnedTupleGo (.Tuple elts x1 pos) (.ref z) (.ref T)) Q E s := by
  unfold letOwnedTupleGo; refine wpAny_bind (wpAny_load hz ?_)
  (show wpAny _ _ (if (["enumerate", "zip", "dict_itemiterator", "dict_reverseitemiterator", "odict_iterator", "itertools.zip_longest", "itertools.pairwise"].contains "zip" && (#[rawInt T, .bool false, .bool b, .ref TI, .ref TO] : Array Value)[0]? == some (rawInt T)) = true then _ else _) Q E s)
  rw [if_pos (by simp)]; refine wpAny_bind (wpAny_rule ?_)
  (show wpAny _ _ (setField (.ref z) 0 .none) Q E s); exact wpAny_setField_rec hz (by simp) fun h' hz' hs' => hQ h' hz' hs'
theorem py_iter_zb {b : Bool} {z TI TO : Addr} {f0 : Value} {Q : Value → Shared → Prop} (hz : IsZ b s.heap z TI TO f0) (h : Q (.ref z) s) : wpAny (model prog w) A (pyIter (.ref z)) Q E s := by
  have hT : s.TypeIs (.ref z) "zip" := ⟨_, hz, rfl⟩
  refine wpAny_pyIter_slot hT F.slot_zip_iter (wpAny_call_entry F.slot_zip_iter hT F.entry_zip_iter (?_ : wpAny _ _ (ret (.ref z)) _ _ s) (F.args_zip_iter_1 _))
  exact wpAny_pure ⟨_, rfl, "zip", _, hT, F.slot_zip_next.lookup, h⟩
end
/-! ### the turns -/
def SqK (K : PySem.W.Frag) (H : Hp) (a : Addr) (t : Bool) (xs : List V) : Prop := match t with
  | true => SqT K H a xs
  | false => SqL K H a xs
/-- the rows at a and c as they stand at each turn, the items in new pairs -/
def ItzB (K : PySem.W.Frag) (b t1 t2 : Bool) (a c : Addr) : It :=
  ⟨fun i H => ∃ (xs ys : List V) (x y : V), SqK K H a t1 xs ∧ SqK K H c t2 ys ∧ xs[i]? = some x ∧ ys[i]? = some y,
    fun i H v H' => ∃ T x y, v = .ref T ∧ H T = none ∧ H' = upd H T (.tup [x, y]) ∧ (∀ xs, SqK K H a t1 xs → xs[i]? = some x) ∧ ∀ ys, SqK K H c t2 ys → ys[i]? = some y,
    fun i H => ∃ xs ys : List V, SqK K H a t1 xs ∧ SqK K H c t2 ys ∧ ZEnd b (xs.length ≤ i) (ys.length ≤ i)⟩
theorem sqk_at {X : Cx} {pins : List (Addr × Obj)} {σ : L2.St} {H : Hp} {s : Shared} (I : Inv X pins σ H s) {a : Addr} {xs : List V} : ∀ {t : Bool}, SqK X.K H a t xs → ∃ its : List Value, Vals xs its ∧ SqAt t s.heap a its.toArray ∧ a < s.heap.objs.size
  | true, h => by
    obtain ⟨its, rv, p, _⟩ := I.tuple h
    obtain ⟨o, e, _⟩ := id p
    exact ⟨its, rv, p, Heap.lt_size e⟩
  | false, h => by
    obtain ⟨its, rv, p, _⟩ := I.list h
    exact ⟨its, rv, p.isList, p.lt⟩
theorem sqk_inj {X : Cx} {pins : List (Addr × Obj)} {σ : L2.St} {H : Hp} {s : Shared} (I : Inv X pins σ H s) {a : Addr} {xs ys : List V} : ∀ {t : Bool}, SqK X.K H a t xs → SqK X.K H a t ys → xs = ys
  | true, h, h' => I.tuple_inj h h'
  | false, h, h' => I.list_inj h h'
theorem turn_zb {P : Program} {w : World} {K : PySem.W.Frag} {elts : List Expr} {kk : Nat} {tpos : Pos} {b t1 t2 : Bool} {a c z TI TO i1 i2 : Addr} (D : ZipApart z TI TO i1 i2 a c) :
    Turn P w K (.Tuple elts kk tpos) (ItzB K b t1 t2 a c) [z, TI, TO, i1, i2] z (fun i h => IsZ b h z TI TO .none ∧ IsPair h TI (.ref i1) (.ref i2) ∧ (∃ x y, IsPair h TO x y) ∧ ItAt t1 h i1 a i ∧ ItAt t2 h i2 c i) where
  mem := by simp
  obj := fun i h st d hd => by
    obtain ⟨hz, hTI, ⟨x, y, hTO⟩, h1, h2⟩ := st
    have e' : d = z ∨ d = TI ∨ d = TO ∨ d = i1 ∨ d = i2 := by simpa using hd
    rcases e' with rfl | rfl | rfl | rfl | rfl
    · exact ⟨_, hz, fun v q => nomatch q⟩
    · exact ⟨_, hTI, fun v q => nomatch q⟩
    · exact ⟨_, hTO, fun v q => nomatch q⟩
    · exact h1.here
    · exact h2.here
  keep := fun i h h' ⟨hz, hTI, ⟨x, y, hTO⟩, h1, h2⟩ k => ⟨k z (by simp) _ hz, k TI (by simp) _ hTI, ⟨x, y, k TO (by simp) _ hTO⟩, h1.at fun o q => k i1 (by simp) o q, h2.at fun o q => k i2 (by simp) o q⟩
  item := by
    intro X hP hw hK hc i pins s σ H E I hf st hg
    subst hP hw hK
    obtain ⟨hz, hTI, ⟨x0, y0, hTO⟩, h1, h2⟩ := st
    obtain ⟨xs, ys, x, y, hqx, hqy, hx, hy⟩ := hg
    obtain ⟨its, rv, p, _⟩ := sqk_at I hqx
    obtain ⟨its2, rv2, p2, _⟩ := sqk_at I hqy
    obtain ⟨u, hu, ru⟩ := rv.get hx
    obtain ⟨u2, hu2, ru2⟩ := rv2.get hy
    have hzl : z < s.heap.objs.size := Heap.lt_size hz
    refine pn_item D hz hTI hTO h1 h2 p p2 (x := u) (y := u2) (by simpa using hu) (by simpa using hu2) fun h' z' TO' h1' h2' hT hk => ⟨_, rfl, let_go_zb (s := { s with heap := h' }) z' fun h'' z'' sb => ?_⟩
    have both : ∀ d o, d ≠ z → d ≠ TO → d ≠ i1 → d ≠ i2 → s.heap.get? d = some o → h''.get? d = some o := fun d o n1 n2 n3 n4 q => (sb.2 d n1).trans (hk d o n1 n2 n3 n4 q)
    have hT2 : h''.get? s.heap.objs.size = some { cls := .type "tuple", data := .seq #[u, u2] } := (sb.2 _ (Nat.ne_of_gt hzl)).trans hT
    have new : ObjOk X.prog X.w (upd H s.heap.objs.size (.tup [x, y])) h'' s.heap.objs.size (.tup [x, y]) := ⟨(by decide : 2 ≤ sizeLine), [u, u2], .cons ru (.cons ru2 .nil), ⟨_, hT2, rfl, _, rfl⟩⟩
    have I1 : Inv X pins σ (upd H s.heap.objs.size (.tup [x, y])) { s with heap := h'' } :=
      I.turnedNew (t' := s.toks) (ch := [z, TI, TO, i1, i2]) (fun d o hb q => both d o (fun q' => hb (by simp [q'])) (fun q' => hb (by simp [q'])) (fun q' => hb (by simp [q'])) (fun q' => hb (by simp [q'])) q) hf (Nat.le_refl _) new
    refine ⟨.ref s.heap.objs.size, _, I1, rfl, ⟨_, x, y, rfl, I.hok.fresh (Nat.le_refl _), rfl, fun l hl => by rw [sqk_inj I hl hqx]; exact hx, fun l hl => by rw [sqk_inj I hl hqy]; exact hy⟩, ⟨z'', both _ _ D.TIz D.TITO D.TIi1 D.TIi2 hTI, ⟨u, u2, (sb.2 _ D.TOz).trans TO'⟩, h1'.at fun o q => (sb.2 _ D.i1z).trans q, h2'.at fun o q => (sb.2 _ D.i2z).trans q⟩, fun d hd => ?_⟩
    have hlt : d < s.heap.objs.size := by
      have e' : d = z ∨ d = TI ∨ d = TO ∨ d = i1 ∨ d = i2 := by simpa using hd
      rcases e' with q | q | q | q | q
      · rw [q]; exact hzl
      · rw [q]; exact Heap.lt_size hTI
      · rw [q]; exact Heap.lt_size hTO
      · rw [q]; obtain ⟨_, e1, _⟩ := h1.here; exact Heap.lt_size e1
      · rw [q]; obtain ⟨_, e2, _⟩ := h2.here; exact Heap.lt_size e2
    rw [upd_ne (Nat.ne_of_lt hlt)]
    exact (hf d hd).1
  done := by
    intro X hP hw hK hc i pins s σ H E I hf st hg
    subst hP hw hK
    obtain ⟨hz, hTI, ⟨x0, y0, hTO⟩, h1, h2⟩ := st
    obtain ⟨xs, ys, hqx, hqy, hend⟩ := hg
    obtain ⟨its, rv, p, _⟩ := sqk_at I hqx
    obtain ⟨its2, rv2, p2, _⟩ := sqk_at I hqy
    have l1 := rv.length
    have l2 := rv2.length
    have he : ZEnd b (its.toArray[i]? = none) (its2.toArray[i]? = none) := by
      cases b with
      | true => exact ⟨by have := hend.1; simp; omega, by have := hend.2; simp; omega⟩
      | false => exact hend.elim (fun q => .inl (by simp; omega)) fun q => .inr (by simp; omega)
    exact pn_end (I.ok.hd hc) D hz hTI hTO h1 h2 p p2 he fun h' hk => ⟨rfl, I.turnedL (t' := s.toks) (ch := [z, TI, TO, i1, i2]) (fun d o hb q => hk d o (fun q' => hb (by simp [q'])) (fun q' => hb (by simp [q'])) (fun q' => hb (by simp [q'])) (fun q' => hb (by simp [q'])) q) hf⟩
  self := fun A i s Q E st h => py_iter_zb st.1 h
/-! ### the calls -/
theorem callWith_tkw {M : Model} {A : Around} {E : Value → Shared → Prop} {s : Shared} {pos : Pos} {T : String} {args : List (Bool × Sem Value)} {ks : List (Option Str × Sem Value)} {Q : Value → Shared → Prop} (hp : args.any (·.1) = false) (hk : ks.any (·.1.isNone) = false)
    (h : wpAny M A (evalArgs (.type T) true args ks) (fun a s₁ => wpAny M A (call (.type T) ([] ++ a.pos) a.kw) Q E s₁) E s) : wpAny M A (callWith pos (.type T) [] args ks) Q E s := by
  unfold callWith
  refine wpAny_bind (wpAny_holding (wpAny_mono h (fun a s₁ g => wpAny_bind (wpAny_standAt ?_)) fun _ _ x => x))
  simp only [hp, hk, Bool.or_false]
  exact wpAny_bind (wpAny_pure (wpAny_bind (wpAny_mono g (fun r s₂ hr => wpAny_bind (wpAny_holding (wpAny_point (wpAny_pure hr)))) fun _ _ x => x)))
namespace F
theorem tc_zip_s (a b v : Value) : checkTypeCall "zip" ⟨[a, b], [(Str.ofString "strict", v)]⟩ = pure () := by kernel_rfl
theorem nc_zip_s (a b v : Value) : checkBuiltinCall "zip.__new__" ⟨[.type "zip", a, b], [(Str.ofString "strict", v)]⟩ = pure () := by kernel_rfl
theorem oi_zip_s (obj a b v : Value) : argsOk "object.__init__" ⟨[obj, a, b], [(Str.ofString "strict", v)]⟩ := by unfold argsOk; kernel_rfl
end F
abbrev zsT (h : Heap) (o1 o2 : Obj) : Heap := ((h.push o1).push o2).push { cls := .type "tuple", data := .seq #[.ref h.objs.size, .ref (h.push o1).objs.size] }
abbrev zsO (h : Heap) (o1 o2 : Obj) : Heap := (zsT h o1 o2).push { cls := .type "tuple", data := .seq #[.none, .none] }
abbrev zsZ (h : Heap) (o1 o2 : Obj) : Heap := (zsO h o1 o2).push { cls := .type "zip", data := .fields #[.none, .bool false, .bool true, .ref ((h.push o1).push o2).objs.size, .ref (zsT h o1 o2).objs.size] }
theorem meets_zs {v1 v2 : Value} {o1 o2 : Obj} {H1 H2 : Heap → Prop} (B1 : PySem.Begins v1 o1 H1) (B2 : PySem.Begins v2 o2 H2) :
    Meets (Builtin.«zip.__new__» ⟨[.type "zip", v1, v2], [(Str.ofString "strict", .bool true)]⟩) (fun _ R s => (H1 s.heap ∧ H2 s.heap) ∧ R (.ok (.ret (.ref (zsO s.heap o1 o2).objs.size))) { s with heap := zsZ s.heap o1 o2 }) :=
  .of_wp fun prog w A R s h => by
    obtain ⟨hp, g, d, tk, os⟩ := s; obtain ⟨⟨h1, h2⟩, h⟩ := h
    have hsub := sub_zip
    have q1 : ∀ {A' : Around} {E : Value → Shared → Prop} {Q : Value → Shared → Prop}, Q (.ref hp.objs.size) ⟨(hp.push o1), g, d, tk, os⟩ → wpAny (model prog w) A' (pyIter v1) Q E ⟨hp, g, d, tk, os⟩ := fun q => B1.iter prog w _ _ ⟨hp, g, d, tk, os⟩ _ (B1.keeps _ _ h1 fun b o' e => e) q
    have q2 : ∀ {A' : Around} {E : Value → Shared → Prop} {Q : Value → Shared → Prop}, Q (.ref (hp.push o1).objs.size) ⟨((hp.push o1).push o2), g, d, tk, os⟩ → wpAny (model prog w) A' (pyIter v2) Q E ⟨(hp.push o1), g, d, tk, os⟩ := fun q => B2.iter prog w _ _ ⟨(hp.push o1), g, d, tk, os⟩ _ (B2.keeps _ _ h2 fun b o' e => (Heap.get?_push_of_some _ e)) q
    have e2 : (Str.ofString "strict" != ("strict" : Str)) = false := by decide +kernel
    wp_walk using q1, q2
    exact ⟨_, rfl, h⟩
section
variable {prog : Program} {w : World} {A : Around} {E : Value → Shared → Prop} {s : Shared}
theorem zip_begS {v1 v2 : Value} {o1 o2 : Obj} {H1 H2 : Heap → Prop} {Q : Value → Shared → Prop} (B1 : PySem.Begins v1 o1 H1) (B2 : PySem.Begins v2 o2 H2) (h1 : H1 s.heap) (h2 : H2 s.heap)
    (h : ∀ h', IsZ true h' (s.heap.objs.size + 4) (s.heap.objs.size + 2) (s.heap.objs.size + 3) .none → IsPair h' (s.heap.objs.size + 2) (.ref s.heap.objs.size) (.ref (s.heap.objs.size + 1)) →
      IsPair h' (s.heap.objs.size + 3) .none .none → h'.get? s.heap.objs.size = some o1 → h'.get? (s.heap.objs.size + 1) = some o2 →
      (∀ c o, s.heap.get? c = some o → h'.get? c = some o) → Q (.ref (s.heap.objs.size + 4)) { s with heap := h' }) :
    wpAny (model prog w) A (call (.type "zip") [v1, v2] [(Str.ofString "strict", .bool true)]) Q E s := by
  refine callType_newKw F.called_zip (by decide) (F.tc_zip_s _ _ _) (F.nc_zip_s _ _ _) (fun obj => F.oi_zip_s obj _ _ _) F.entry_zip_new (meets_zs B1 B2) ⟨⟨h1, h2⟩, ?_⟩
  have z1 : (s.heap.push o1).objs.size = s.heap.objs.size + 1 := Heap.size_push ..
  have z2 : ((s.heap.push o1).push o2).objs.size = s.heap.objs.size + 2 := (Heap.size_push ..).trans (congrArg (· + 1) z1)
  have zT : (zsT s.heap o1 o2).objs.size = s.heap.objs.size + 3 := (Heap.size_push ..).trans (congrArg (· + 1) z2)
  have zO : (zsO s.heap o1 o2).objs.size = s.heap.objs.size + 4 := (Heap.size_push ..).trans (congrArg (· + 1) zT)
  have gZ : (zsZ s.heap o1 o2).get? (zsO s.heap o1 o2).objs.size = some { cls := .type "zip", data := .fields #[.none, .bool false, .bool true, .ref ((s.heap.push o1).push o2).objs.size, .ref (zsT s.heap o1 o2).objs.size] } := Heap.get?_push_size (zsO s.heap o1 o2) rfl
  have gO : (zsZ s.heap o1 o2).get? (zsT s.heap o1 o2).objs.size = some _ := Heap.get?_push_of_some _ (Heap.get?_push_size _ rfl)
  have gT : (zsZ s.heap o1 o2).get? ((s.heap.push o1).push o2).objs.size = some _ := Heap.get?_push_of_some _ (Heap.get?_push_of_some _ (Heap.get?_push_size _ rfl))
  have g1 : (zsZ s.heap o1 o2).get? s.heap.objs.size = some _ := Heap.get?_push_of_some _ (Heap.get?_push_of_some _ (Heap.get?_push_of_some _ (Heap.get?_push_of_some _ (Heap.get?_push_size _ B1.free))))
  have g2 : (zsZ s.heap o1 o2).get? (s.heap.push o1).objs.size = some _ := Heap.get?_push_of_some _ (Heap.get?_push_of_some _ (Heap.get?_push_of_some _ (Heap.get?_push_size _ B2.free)))
  rw [zO, zT, z2] at gZ; rw [zT] at gO; rw [z2, z1] at gT; rw [z1] at g2
  show _ ∧ _
  rw [zO]
  exact ⟨⟨_, gZ, rfl⟩, h _ gZ gT gO g1 g2 fun c o e => Heap.get?_push_of_some _ (Heap.get?_push_of_some _ (Heap.get?_push_of_some _ (Heap.get?_push_of_some _ (Heap.get?_push_of_some _ e))))⟩
end
def itO (t : Bool) (a : Addr) : Obj := match t with
  | true => { cls := .type "tuple_iterator", data := .fields #[.ref a, .int 0 0] }
  | false => { cls := .type "list_iterator", data := .fields #[.ref a, .int 0 0] }
theorem beg_k (t : Bool) (a : Addr) (items : Array Value) : PySem.Begins (.ref a) (itO t a) fun h => SqAt t h a items := match t with
  | true => begins_tuple a items
  | false => begins_list a items
theorem it0 {t : Bool} {h : Heap} {i a : Addr} (e : h.get? i = some (itO t a)) : ItAt t h i a 0 := match t, e with
  | true, e => ⟨_, e, rfl, rfl⟩
  | false, e => ⟨_, e, rfl, rfl⟩
def tZip (K : PySem.W.Frag) (b : Bool) (ta : TA) : TI := fun σ H R => ta σ H fun vs H1 => ∃ a c t1 t2 xs ys, vs = [.ref a, .ref c] ∧ SqK K H1 a t1 xs ∧ SqK K H1 c t2 ys ∧ R (ItzB K b t1 t2 a c) H1
theorem fp5 {X : Cx} {pins : List (Addr × Obj)} {σ : L2.St} {H : Hp} {s : Shared} (I : Inv X pins σ H s) : ∀ c, c ∈ [s.heap.objs.size + 4, s.heap.objs.size + 2, s.heap.objs.size + 3, s.heap.objs.size, s.heap.objs.size + 1] → FpOk X pins H c := fun c hc => by
  have hle : s.heap.objs.size ≤ c := by
    have e' : c = s.heap.objs.size + 4 ∨ c = s.heap.objs.size + 2 ∨ c = s.heap.objs.size + 3 ∨ c = s.heap.objs.size ∨ c = s.heap.objs.size + 1 := by simpa using hc
    rcases e' with z | z | z | z | z <;> (rw [z]; simp)
  exact I.fpOk hle (I.hok.fresh hle)
theorem pi_zb {X : Cx} {e e2 : Expr} {ta : TA} {p pos tpos : Pos} {elts : List Expr} {kk : Nat} (hg : Gl X "zip") (hm : X.mg "zip" = none) (ha : PA X [e, e2] ta)
    (hs : starEach [e, e2] X.env = (false, eval e X.env) :: starEach [e2] X.env := by rfl) (hpl : (backTo pos (starEach [e2] X.env)).any (·.1) = false := by rfl) :
    PI X (.Tuple elts kk tpos) (.Call (.Name "zip" p) [e, e2] [] pos) (tZip X.K false ta) := by
  refine ⟨fun pins s σ H R I h => ?_⟩
  refine Call_ (ld_blt I hg hm PyProof.Rows.boot_zip (PyProof.Rows.callWith_type1 (thn (ha.run pos pins s σ H _ I h) fun us s1 ⟨vs, H1, I1, r1, a, c, t1, t2, xs, ys, ex, hqx, hqy, q⟩ => ?_) hs hpl))
  subst ex
  cases r1 with
  | cons r rr =>
    cases rr with
    | cons r' rr =>
      cases rr; cases r; cases r'
      obtain ⟨its, rv, p1, la⟩ := sqk_at I1 hqx
      obtain ⟨its2, rv2, p2, lc⟩ := sqk_at I1 hqy
      refine zip_begins2 (beg_k t1 a its.toArray) (beg_k t2 c its2.toArray) p1 p2 fun h' hz hTI hTO h1 h2 hsz hk => py_iter_zb (b := false) hz ?_
      exact ⟨_, _, _, _, H1, rfl, I1.kept (t' := s1.toks) hk, turn_zb (PySem.W.ktu_apart s1.heap.objs.size a c la lc), ⟨hz, hTI, ⟨_, _, hTO⟩, it0 h1, it0 h2⟩, fp5 I1, q⟩
theorem pi_zs {X : Cx} {e e2 : Expr} {ta : TA} {p pos tpos kp kpos : Pos} {elts : List Expr} {kk kj : Nat} (hg : Gl X "zip") (hm : X.mg "zip" = none) (ha : PA X [e, e2] ta)
    (hs : starEach [e, e2] X.env = (false, eval e X.env) :: starEach [e2] X.env := by rfl) (hpl : (backTo pos (starEach [e, e2] X.env)).any (·.1) = false := by rfl) :
    PI X (.Tuple elts kk tpos) (.Call (.Name "zip" p) [e, e2] [⟨some "strict", .Constant (.bool true) kj kp, kpos⟩] pos) (tZip X.K true ta) := by
  refine ⟨fun pins s σ H R I h => ?_⟩
  refine wpAny_Call_Name_kw (ld_blt I hg hm PyProof.Rows.boot_zip (callWith_tkw hpl rfl (evalArgs_kw2 rfl (thn (ha.run pos pins s σ H _ I h) fun us s1 ⟨vs, H1, I1, r1, a, c, t1, t2, xs, ys, ex, hqx, hqy, q⟩ => kwAll_cons ?_) hs)))
  refine thn (pe_bl.run pins s1 σ H1 (fun v H2 => v = .bl true ∧ H2 = H1) I1 ⟨rfl, rfl⟩) fun vb s2 ⟨v, H2, I2, rb, ev, eh⟩ => kwAll_nil ?_
  subst ex ev eh
  cases rb
  cases r1 with
  | cons r rr =>
    cases rr with
    | cons r' rr =>
      cases rr; cases r; cases r'
      obtain ⟨its, rv, p1, la⟩ := sqk_at I2 hqx
      obtain ⟨its2, rv2, p2, lc⟩ := sqk_at I2 hqy
      refine zip_begS (beg_k t1 a its.toArray) (beg_k t2 c its2.toArray) p1 p2 fun h' hz hTI hTO h1 h2 hk => py_iter_zb hz ?_
      exact ⟨_, _, _, _, H2, rfl, I2.kept (t' := s2.toks) hk, turn_zb (PySem.W.ktu_apart s2.heap.objs.size a c la lc), ⟨hz, hTI, ⟨_, _, hTO⟩, it0 h1, it0 h2⟩, fp5 I2, q⟩
end DL
/-! zip, enumerate, list(range ..) over data -/
namespace DL
open PySem PySem.Spec PyProof.Rows L2
section
variable {K : PySem.W.Frag} {fr : Fz} {H : Hp} {st : Store}
theorem seq_kind {x : Sl} {v : V} {xs : List Sl} (s : StR K fr H st) (r : SlR K fr H v x) (h : seqOf st x = some xs) : ∃ a t, v = .ref a ∧ stays x xs st ∧
    ∀ fr' H' st', Ext fr H st fr' H' st' → StR K fr' H' st' → stays x xs st' → ∃ ws, SqK K H' a t ws ∧ SlsR K fr' H' ws xs := by
  unfold seqOf at h
  split at h
  · cases h
    obtain ⟨a, ws, rfl, h1, h2⟩ := rp_lstv r
    refine ⟨a, false, rfl, trivial, fun fr2 H2 st2 e2 s2 _ => ?_⟩
    obtain ⟨zs, z1, z2⟩ := sql_ex s.ow e2 r
    exact ⟨zs, z1, SlsR.ofRp z2⟩
  · cases h
    obtain ⟨a, ws, rfl, h1, h2⟩ := rp_tupv r
    exact ⟨a, true, rfl, trivial, fun fr2 H2 st2 e2 s2 _ => ⟨ws, sqt_ex s.ow e2 h1, SlsR.ofRp (RpAll.ex s.ow e2 h2)⟩⟩
  · next p =>
    obtain rfl : v = .ref p := r
    split at h
    · next ys hy =>
      cases h
      refine ⟨p, false, rfl, hy, fun fr2 H2 st2 e2 s2 y2 => ?_⟩
      obtain ⟨_, zs, hz, hr2⟩ := s2.own p _ y2
      exact ⟨zs, SqL.of hz, hr2⟩
    · cases h
  · cases h
    obtain ⟨a, ws, rfl, h1, h2⟩ := rol_v r
    refine ⟨a, false, rfl, trivial, fun fr2 H2 st2 e2 s2 _ => ?_⟩
    obtain ⟨b, zs, eb, z1, z2⟩ := rol_v (SlR.ex s.ow e2 r)
    cases eb
    exact ⟨zs, z1, SlsR.ofRp z2⟩
  · cases h
    obtain ⟨t, rfl, h1⟩ := r
    exact ⟨t, true, rfl, trivial, fun fr2 H2 st2 e2 s2 _ => ⟨[], sqt_ex s.ow e2 h1, .nil⟩⟩
  · cases h
    obtain ⟨t, u, us, rfl, h1, h2, h3⟩ := r
    exact ⟨t, true, rfl, trivial, fun fr2 H2 st2 e2 s2 _ => ⟨_, sqt_ex s.ow e2 h1, .cons (SlR.ex s.ow e2 h2) (itT_at ((SlP.ex s.ow e2).2 _ h3))⟩⟩
  · cases h
def prD (a b : PyData) : Sl := .d (.tuple [a, b])
theorem pr_new {H : Hp} {st : Store} (s : StR K fr H st) {T : Addr} {x y : V} {d e : PyData} (n : H T = none) (rx : Rp K fr H x d) (ry : Rp K fr H y e) :
    ∃ fr', Ext fr H st fr' (upd H T (.tup [x, y])) st ∧ StR K fr' (upd H T (.tup [x, y])) st ∧ SlR K fr' (upd H T (.tup [x, y])) (.ref T) (prD d e) :=
  ⟨fr, Ext.new n, s.new n, .tup (SqT.of upd_same) (RpAll.ex s.ow (Ext.new n) (.cons rx (.cons ry .nil)))⟩
theorem itz_ok {b t1 t2 : Bool} {a c : Addr} {ds es : List PyData} {stay : Store → Prop} (hb : b = true → ds.length = es.length)
    (h1 : ∀ fr' H' st', Ext fr H st fr' H' st' → StR K fr' H' st' → stay st' → ∃ ws, SqK K H' a t1 ws ∧ SlsR K fr' H' ws (ds.map Sl.d))
    (h2 : ∀ fr' H' st', Ext fr H st fr' H' st' → StR K fr' H' st' → stay st' → ∃ ws, SqK K H' c t2 ws ∧ SlsR K fr' H' ws (es.map Sl.d)) : ItOk K fr H st (ItzB K b t1 t2 a c) (List.zipWith prD ds es) stay := fun i fr1 H1 st1 e1 s1 y1 => by
  obtain ⟨ws, q1, r1⟩ := h1 fr1 H1 st1 e1 s1 y1
  obtain ⟨zs, q2, r2⟩ := h2 fr1 H1 st1 e1 s1 y1
  have l1 := r1.toRp.length
  have l2 := r2.toRp.length
  refine ⟨fun x hx => ?_, fun hi => ⟨ws, zs, q1, q2, ?_⟩⟩
  · rw [List.getElem?_zipWith] at hx
    cases e : ds[i]? with
    | none =>
      rw [e] at hx
      simp at hx
    | some d =>
      cases e' : es[i]? with
      | none =>
        rw [e, e'] at hx
        simp at hx
      | some f =>
        rw [e, e'] at hx
        cases hx
        obtain ⟨v, hv, rv⟩ := r1.toRp.get e
        obtain ⟨u, hu, ru⟩ := r2.toRp.get e'
        refine ⟨⟨ws, zs, v, u, q1, q2, hv, hu⟩, fun z H2 y2 => ?_⟩
        obtain ⟨T, x, y, rfl, hT, rfl, g1, g2⟩ := y2
        have ex : x = v := Option.some.inj ((g1 ws q1).symm.trans hv)
        have ey : y = u := Option.some.inj ((g2 zs q2).symm.trans hu)
        subst ex ey
        exact pr_new s1 hT rv ru
  · rw [List.length_zipWith] at hi
    cases b with
    | true =>
      have hl := hb rfl
      exact ⟨by omega, by omega⟩
    | false => exact (show ws.length ≤ i ∨ zs.length ≤ i by omega)
/-- a pair of any things -/
def prS : Sl → Sl → Sl
  | .d a, .d b => prD a b
  | x, y => .tc x (.tc y .tn)
theorem pr_newS {H : Hp} {st : Store} (s : StR K fr H st) {T : Addr} {x y : V} {d e : Sl} (n : H T = none) (rx : SlR K fr H x d) (ry : SlR K fr H y e) :
    ∃ fr', Ext fr H st fr' (upd H T (.tup [x, y])) st ∧ StR K fr' (upd H T (.tup [x, y])) st ∧ SlR K fr' (upd H T (.tup [x, y])) (.ref T) (prS d e) := by
  unfold prS
  split
  · exact pr_new s n rx ry
  · exact ⟨fr, Ext.new n, s.new n, T, x, [y], rfl, SqT.of upd_same, SlR.ex s.ow (Ext.new n) rx, y, [], rfl, SlR.ex s.ow (Ext.new n) ry, rfl⟩
theorem itzS_ok {b t1 t2 : Bool} {a c : Addr} {ds es : List Sl} {stay : Store → Prop} (hb : b = true → ds.length = es.length)
    (h1 : ∀ fr' H' st', Ext fr H st fr' H' st' → StR K fr' H' st' → stay st' → ∃ ws, SqK K H' a t1 ws ∧ SlsR K fr' H' ws ds)
    (h2 : ∀ fr' H' st', Ext fr H st fr' H' st' → StR K fr' H' st' → stay st' → ∃ ws, SqK K H' c t2 ws ∧ SlsR K fr' H' ws es) : ItOk K fr H st (ItzB K b t1 t2 a c) (List.zipWith prS ds es) stay := fun i fr1 H1 st1 e1 s1 y1 => by
  obtain ⟨ws, q1, r1⟩ := h1 fr1 H1 st1 e1 s1 y1
  obtain ⟨zs, q2, r2⟩ := h2 fr1 H1 st1 e1 s1 y1
  have l1 := r1.length
  have l2 := r2.length
  refine ⟨fun x hx => ?_, fun hi => ⟨ws, zs, q1, q2, ?_⟩⟩
  · rw [List.getElem?_zipWith] at hx
    cases e : ds[i]? with
    | none =>
      rw [e] at hx
      simp at hx
    | some d =>
      cases e' : es[i]? with
      | none =>
        rw [e, e'] at hx
        simp at hx
      | some f =>
        rw [e, e'] at hx
        cases hx
        obtain ⟨v, hv, rv⟩ := r1.get e
        obtain ⟨u, hu, ru⟩ := r2.get e'
        refine ⟨⟨ws, zs, v, u, q1, q2, hv, hu⟩, fun z H2 y2 => ?_⟩
        obtain ⟨T, x, y, rfl, hT, rfl, g1, g2⟩ := y2
        have ex : x = v := Option.some.inj ((g1 ws q1).symm.trans hv)
        have ey : y = u := Option.some.inj ((g2 zs q2).symm.trans hu)
        subst ex ey
        exact pr_newS s1 hT rv ru
  · rw [List.length_zipWith] at hi
    cases b with
    | true =>
      have hl := hb rfl
      exact ⟨by omega, by omega⟩
    | false => exact (show ws.length ≤ i ∨ zs.length ≤ i by omega)
end
def iZpB (b : Bool) (ta : DTA) : DTI := fun ρ st k => ta ρ st fun xs st1 => match xs with
  | [x, y] => (match seqOf st1 x, seqOf st1 y with
    | some us, some vs => (match allD us, allD vs with
      | some ds, some es => (b = true → ds.length = es.length) ∧ k (List.zipWith prD ds es) (fun s => stays x us s ∧ stays y vs s) st1
      | _, _ => (b = true → us.length = vs.length) ∧ k (List.zipWith prS us vs) (fun s => stays x us s ∧ stays y vs s) st1)
    | _, _ => False)
  | _ => False
def iZp := iZpB false
def iZpS := iZpB true
theorem li_zp {K : PySem.W.Frag} {b : Bool} {ta : DTA} {σ : L2.St} {H : Hp} {R : It → Hp → Prop} : LI K (iZpB b ta) σ H R → tZip K b (LA K ta) σ H R := fun h1 => by
  obtain ⟨fr, ρ, st, k, w, h, q⟩ := h1
  refine ⟨fr, ρ, st, _, w, h, fun xs st1 fr1 H1 vs k1 e1 s1 r1 => ?_⟩
  split at k1
  · next x y =>
    split at k1
    · next us ws hu hv =>
      split at k1
      · next ds es hd he =>
        cases r1 with
        | cons ra rr =>
          cases rr with
          | cons rb rr =>
            cases rr
            obtain ⟨a, t1, rfl, sa, ga⟩ := seq_kind s1 ra hu
            obtain ⟨c, t2, rfl, sc, gc⟩ := seq_kind s1 rb hv
            obtain ⟨xa, qa, _⟩ := ga _ _ _ (Ext.refl _ _ _) s1 sa
            obtain ⟨xc, qc, _⟩ := gc _ _ _ (Ext.refl _ _ _) s1 sc
            refine ⟨a, c, t1, t2, xa, xc, rfl, qa, qc, q _ _ _ _ _ _ k1.2 e1 s1 (itz_ok k1.1 (fun fr' H' st' e' s' y' => ?_) fun fr' H' st' e' s' y' => ?_)⟩
            · rw [← allD_eq hd]
              exact ga fr' H' st' e' s' y'.1
            · rw [← allD_eq he]
              exact gc fr' H' st' e' s' y'.2
      · cases r1 with
        | cons ra rr =>
          cases rr with
          | cons rb rr =>
            cases rr
            obtain ⟨a, t1, rfl, sa, ga⟩ := seq_kind s1 ra hu
            obtain ⟨c, t2, rfl, sc, gc⟩ := seq_kind s1 rb hv
            obtain ⟨xa, qa, _⟩ := ga _ _ _ (Ext.refl _ _ _) s1 sa
            obtain ⟨xc, qc, _⟩ := gc _ _ _ (Ext.refl _ _ _) s1 sc
            exact ⟨a, c, t1, t2, xa, xc, rfl, qa, qc, q _ _ _ _ _ _ k1.2 e1 s1 (itzS_ok k1.1 (fun fr' H' st' e' s' y' => ga fr' H' st' e' s' y'.1) fun fr' H' st' e' s' y' => gc fr' H' st' e' s' y'.2)⟩
    · exact k1.elim
  · exact k1.elim
theorem i_zip {X : Cx} {e e2 : Expr} {ta : DTA} {p pos tpos : Pos} {elts : List Expr} {kk : Nat} (hm : X.mg "zip" = none) (ha : DA X [e, e2] ta) (hg : Gl X "zip" := by rfl)
    (hs : starEach [e, e2] X.env = (false, eval e X.env) :: starEach [e2] X.env := by rfl) (hpl : (backTo pos (starEach [e2] X.env)).any (·.1) = false := by rfl) :
    DI X (.Tuple elts kk tpos) (.Call (.Name "zip" p) [e, e2] [] pos) (iZp ta) := pi_imp (pi_zb hg hm ha hs hpl) fun _ _ _ => li_zp
theorem i_zipS {X : Cx} {e e2 : Expr} {ta : DTA} {p pos tpos kp kpos : Pos} {elts : List Expr} {kk kj : Nat} (hm : X.mg "zip" = none) (ha : DA X [e, e2] ta) (hg : Gl X "zip" := by rfl)
    (hs : starEach [e, e2] X.env = (false, eval e X.env) :: starEach [e2] X.env := by rfl) (hpl : (backTo pos (starEach [e, e2] X.env)).any (·.1) = false := by rfl) :
    DI X (.Tuple elts kk tpos) (.Call (.Name "zip" p) [e, e2] [⟨some "strict", .Constant (.bool true) kj kp, kpos⟩] pos) (iZpS ta) := pi_imp (pi_zs hg hm ha hs hpl) fun _ _ _ => li_zp
/-! ### enumerate of a list -/
def enD (ds : List PyData) : List Sl := ds.mapIdx fun i d => prD (.int (i : Nat)) d
theorem enD_len (ds : List PyData) : (enD ds).length = ds.length := List.length_mapIdx
theorem enD_get {ds : List PyData} {i : Nat} {x : Sl} (h : (enD ds)[i]? = some x) : ∃ d, ds[i]? = some d ∧ x = prD (.int (i : Nat)) d := by
  unfold enD at h
  rw [List.getElem?_mapIdx] at h
  cases e : ds[i]? with
  | none =>
    rw [e] at h
    cases h
  | some d =>
    rw [e] at h
    cases h
    exact ⟨d, rfl, rfl⟩
def iEn (ta : DTA) : DTI := fun ρ st k => ta ρ st fun xs st1 => match xs with
  | [x] => (match lstOf st1 x with
    | some us => (match allD us with
      | some ds => k (enD ds) (stays x us) st1
      | none => False)
    | none => False)
  | _ => False
theorem lst_own {st : Store} {p : Addr} {xs : List Sl} (h : lstOf st (.o p) = some xs) : st p = some (.l xs) := by
  unfold lstOf at h
  dsimp only at h
  split at h
  · next ys hy =>
    cases h
    exact hy
  · cases h
theorem own_lst {st : Store} {p : Addr} {xs : List Sl} (h : st p = some (.l xs)) : lstOf st (.o p) = some xs := by
  unfold lstOf
  dsimp only
  rw [h]
theorem own_seq {st : Store} {p : Addr} {xs : List Sl} (h : st p = some (.l xs)) : seqOf st (.o p) = some xs := by
  unfold seqOf
  dsimp only
  rw [h]
theorem lst_seq {st : Store} {x : Sl} {xs : List Sl} (h : lstOf st x = some xs) : seqOf st x = some xs := by
  cases x with
  | o p => exact own_seq (lst_own h)
  | d d =>
    cases d with
    | list ds => exact h
    | _ => cases h
  | r ds => exact h
  | _ => cases h
theorem lst_kind {K : PySem.W.Frag} {fr : Fz} {H : Hp} {st : Store} {x : Sl} {v : V} {xs : List Sl} (s : StR K fr H st) (r : SlR K fr H v x) (h : lstOf st x = some xs) : ∃ a, v = .ref a ∧ stays x xs st ∧
    ∀ fr' H' st', Ext fr H st fr' H' st' → StR K fr' H' st' → stays x xs st' → ∃ ws, SqL K H' a ws ∧ SlsR K fr' H' ws xs := by
  cases x with
  | o p =>
    have hp := lst_own h
    obtain rfl : v = .ref p := r
    refine ⟨p, rfl, hp, fun fr' H' st' e' s' y' => ?_⟩
    obtain ⟨_, zs, hz, hr2⟩ := s'.own p _ y'
    exact ⟨zs, SqL.of hz, hr2⟩
  | d d =>
    obtain ⟨a, ws, rfl, q, _⟩ := lst_at s r h
    refine ⟨a, rfl, trivial, fun fr' H' st' e' s' _ => ?_⟩
    obtain ⟨b, zs, eb, q', r'⟩ := lst_at s' (SlR.ex s.ow e' r) (show lstOf st' (.d d) = some xs by cases d <;> exact h)
    cases eb
    exact ⟨zs, q', r'⟩
  | r ds =>
    obtain ⟨a, ws, rfl, q, _⟩ := lst_at s r h
    refine ⟨a, rfl, trivial, fun fr' H' st' e' s' _ => ?_⟩
    obtain ⟨b, zs, eb, q', r'⟩ := lst_at s' (SlR.ex s.ow e' r) (show lstOf st' (.r ds) = some xs from h)
    cases eb
    exact ⟨zs, q', r'⟩
  | _ => cases h
theorem i_enum {X : Cx} {e : Expr} {ta : DTA} {p pos tpos : Pos} {elts : List Expr} {kk : Nat} (hm : X.mg "enumerate" = none) (ha : DA X [e] ta) (hg : Gl X "enumerate" := by rfl) (hs : starEach [e] X.env = [(false, eval e X.env)] := by rfl) :
    DI X (.Tuple elts kk tpos) (.Call (.Name "enumerate" p) [e] [] pos) (iEn ta) := pi_imp (pi_enum hg hm ha hs) fun σ H R h1 => by
  obtain ⟨fr, ρ, st, k, w, h, q⟩ := h1
  refine ⟨fr, ρ, st, _, w, h, fun xs st1 fr1 H1 vs k1 e1 s1 r1 => ?_⟩
  split at k1
  · split at k1
    · next us hu =>
      split at k1
      · next ds hd =>
        cases r1 with
        | cons ra rr =>
          cases rr
          obtain ⟨a, rfl, sa, ga⟩ := lst_kind s1 ra hu
          obtain ⟨xa, qa, _⟩ := ga _ _ _ (Ext.refl _ _ _) s1 sa
          refine ⟨a, xa, rfl, qa, q _ _ _ _ _ _ k1 e1 s1 fun i fr2 H2 st2 e2 s2 y2 => ?_⟩
          obtain ⟨ws, q2, r2⟩ := ga fr2 H2 st2 e2 s2 y2
          rw [allD_eq hd] at r2
          refine ⟨fun x hx => ?_, fun hi => ⟨ws, q2, by rw [enD_len] at hi; rw [r2.toRp.length]; exact hi⟩⟩
          obtain ⟨d, hd', rfl⟩ := enD_get hx
          obtain ⟨v, hv, rv⟩ := r2.toRp.get hd'
          refine ⟨⟨ws, v, q2, hv⟩, fun z H3 y3 => ?_⟩
          obtain ⟨T, x, rfl, hT, rfl, g⟩ := y3
          have ex : x = v := Option.some.inj ((g ws q2).symm.trans hv)
          subst ex
          exact pr_new s2 hT (.int _) rv
      · exact k1.elim
    · exact k1.elim
  · exact k1.elim
/-! ### list(range(..)) -/
theorem rg_rel {K : PySem.W.Frag} {fr : Fz} {H : Hp} (a b : Int) : SlsR K fr H (rgV a b) (rngs a (b - a).toNat) := by
  unfold rgV rngs
  generalize List.range (b - a).toNat = l
  induction l with
  | nil => exact .nil
  | cons i r ih => exact .cons (.int _) ih
def dListRg1 (ta : DTE) : DTE := fun ρ st k => ta ρ st fun x st1 => match x with
  | .d (.int n) => RgOk 0 n ∧ dNew (rngs 0 (n - 0).toNat) st1 k
  | _ => False
def dListRg2 (ta tb : DTE) : DTE := fun ρ st k => ta ρ st fun x st1 => tb ρ st1 fun y st2 => match x, y with
  | .d (.int a), .d (.int b) => RgOk a b ∧ dNew (rngs a (b - a).toNat) st2 k
  | _, _ => False
theorem d_listRg1 {X : Cx} {e : Expr} {te : DTE} {p p2 pos pos2 : Pos} (hml : X.mg "list" = none) (hmr : X.mg "range" = none) (he : DE X e te) (hc : X.calm = true := by rfl) (hgl : Gl X "list" := by rfl) (hgr : Gl X "range" := by rfl)
    (na : starEach [e] X.env = (false, eval e X.env) :: starEach [] X.env := by rfl) (nb : starEach [.Call (.Name "range" p2) [e] [] pos2] X.env = (false, eval (.Call (.Name "range" p2) [e] [] pos2) X.env) :: starEach [] X.env := by rfl) :
    DE X (.Call (.Name "list" p) [.Call (.Name "range" p2) [e] [] pos2] [] pos) (dListRg1 te) := pe_imp (pe_listRg hc hgl hml (prg_1 hgr hmr he na) nb) fun σ H Q h1 => by
  obtain ⟨fr, ρ, st, k, w, h, q⟩ := h1
  refine ⟨fr, ρ, st, _, w, h, fun x st1 fr1 H1 v k1 e1 s1 r1 => ?_⟩
  split at k1
  · exact ⟨_, rp_int r1, k1.1, fun p n => (q.at e1).lst s1 (rg_rel _ _) k1.2 n⟩
  · exact k1.elim
theorem d_listRg2 {X : Cx} {e e2 : Expr} {te te2 : DTE} {p p2 pos pos2 : Pos} (hml : X.mg "list" = none) (hmr : X.mg "range" = none) (he : DE X e te) (he2 : DE X e2 te2) (hc : X.calm = true := by rfl) (hgl : Gl X "list" := by rfl) (hgr : Gl X "range" := by rfl)
    (na : starEach [e, e2] X.env = (false, eval e X.env) :: starEach [e2] X.env := by rfl) (nc : starEach [e2] X.env = (false, eval e2 X.env) :: starEach [] X.env := by rfl) (hp : (backTo pos2 (starEach [e2] X.env)).any (·.1) = false := by rfl)
    (nb : starEach [.Call (.Name "range" p2) [e, e2] [] pos2] X.env = (false, eval (.Call (.Name "range" p2) [e, e2] [] pos2) X.env) :: starEach [] X.env := by rfl) :
    DE X (.Call (.Name "list" p) [.Call (.Name "range" p2) [e, e2] [] pos2] [] pos) (dListRg2 te te2) := pe_imp (pe_listRg hc hgl hml (prg_2 hgr hmr he he2 na nc hp) nb) fun σ H Q h1 => by
  obtain ⟨fr, ρ, st, k, w, h, q⟩ := h1
  refine ⟨fr, ρ, st, _, w, h, fun x st1 fr1 H1 v k1 e1 s1 r1 => ⟨fr1, ρ, st1, _, w.on e1 s1, k1, fun y st2 fr2 H2 u k2 e2 s2 r2 => ?_⟩⟩
  split at k2
  · exact ⟨_, _, rp_int r1, rp_int r2, k2.1, fun p n => (q.at (e1.trans e2)).lst s2 (rg_rel _ _) k2.2 n⟩
  · exact k2.elim
end DL
namespace DL
open PySem PySem.Spec PyProof.Rows L2
/-- (targets) = (values), by a tuple that is made and put aside -/
def dUnp (n : Nat) (ta : DTA) (gs : DTGs) : DTS := fun D ρ st => ta ρ st fun xs st1 => xs.length = n ∧ gs xs ρ st1 D.nx
theorem s_unp {X : Cx} {pos p1 p2 : Pos} {k1 k2 : Nat} {ts es : List Expr} {ta : DTA} {gs : DTGs} {vs : List Nat} {n : Nat} (hc : X.calm = true) (ha : DA X es ta) (hg : DGs X vs ts gs) (hn : (assignEach ts X.env).length = n := by rfl) (hz : n ≤ sizeLine := by decide) (hst : (assignEach ts X.env).findIdx? (·.1) = none := by rfl)
    (hs : swapsWithSole [.Tuple ts k1 p1] (.Tuple es k2 p2) pos.line X.env = pure false := by rfl) (hw : swappedStores [.Tuple ts k1 p1] (.Tuple es k2 p2) X.env = pure none := by rfl)
    (h1 : (assignEach [.Tuple ts k1 p1] X.env).map (·.2) = [assign (.Tuple ts k1 p1) X.env] := by rfl) : DS X (.Assign [.Tuple ts k1 p1] (.Tuple es k2 p2) pos) (dUnp n ta gs) := ps_imp (ps_asg (pe_tup ha) (pg_tup hc hg hn hst) hs hw h1) fun D σ H ⟨fr, ρ, st, k, w, h, q⟩ =>
  ⟨fr, ρ, st, _, w, h, fun xs st1 fr1 H1 us k1 e1 s1 r1 => ⟨by rw [r1.length, k1.1]; exact hz, fun p np => ⟨p, us, rfl, SqT.of upd_same, by rw [r1.length, k1.1], fr1, ρ, st1, xs, _, (w.on e1 s1).on (Ext.new np) (s1.new np), r1.ex s1.ow (Ext.new np), k1.2,
    fun ρ2 st2 fr2 H2 σ2 k2 e2 w2 _ => q.nx _ _ _ _ _ k2 ((e1.trans (Ext.new np)).trans e2) w2⟩⟩⟩
def dPar3 (i j l : Nat) (ta : DTA) : DTS := fun D ρ st => ta ρ st fun xs st1 => match xs with
  | [x, y, z] => D.nx (((ρ.set i (some x)).set j (some y)).set l (some z)) st1
  | _ => False
theorem s_par3 (i j l : Nat) {X : Cx} {x y z : Str} {a b c : Expr} {ta : DTA} {px py pz pt pos : Pos} {kt k2 pt2} (hc : X.calm = true) (hN : X.N.Nodup) (ha : DA X [a, b, c] ta) (hi : X.N[i]? = some x := by rfl) (hj : X.N[j]? = some y := by rfl) (hl : X.N[l]? = some z := by rfl) (hij : i ≠ j := by decide) (hil : i ≠ l := by decide) (hjl : j ≠ l := by decide)
    (hx : X.env.scope.names.lookup x = some .local := by rfl) (hy : X.env.scope.names.lookup y = some .local := by rfl) (hz : X.env.scope.names.lookup z = some .local := by rfl)
    (hw : swappedStores [.Tuple [.Name x px, .Name y py, .Name z pz] kt pt] (.Tuple [a, b, c] k2 pt2) X.env = pure (some [x, y, z]) := by rfl)
    (hs : swapsWithSole [.Tuple [.Name x px, .Name y py, .Name z pz] kt pt] (.Tuple [a, b, c] k2 pt2) pos.line X.env = pure false := by rfl) :
    DS X (.Assign [.Tuple [.Name x px, .Name y py, .Name z pz] kt pt] (.Tuple [a, b, c] k2 pt2) pos) (dPar3 i j l ta) := ps_imp (ps_par3 hc hN hi hj hl hij hil hjl hx hy hz ha hw hs) fun D σ H ⟨fr, ρ, st, k, w, h, q⟩ =>
  ⟨fr, ρ, st, _, w, h, fun xs st1 fr1 H1 v k1 e1 s1 r1 => by
    split at k1
    · cases r1 with
      | cons a r =>
        cases r with
        | cons b r =>
          cases r with
          | cons c r =>
            cases r
            exact ⟨_, _, _, rfl, q.nx _ _ _ _ _ k1 e1 ((((w.on e1 s1).put a i).put b j).put c l)⟩
    · exact k1.elim⟩
theorem rm_ins {K : PySem.W.Frag} : RMD K (fun x vs H Q => ∃ (l : Addr) (xs : List V) (i : Int) (y : V), x = .ref l ∧ vs = [.int i, y] ∧ H l = some (.lst xs) ∧ xs.length < sizeLine ∧ 0 ≤ i ∧ i < 2 ^ 63 ∧ Q .non (upd H l (.lst (xs.take i.toNat ++ [y] ++ xs.drop i.toNat)))) fIns := fun fr H st p xs ys vs k Q s hp r h q => by
  unfold fIns at h
  split at h
  · next i y =>
    obtain ⟨v, u, rfl, rv, ru⟩ := sls2 r
    obtain ⟨_, ws, hw, hr⟩ := s.own p _ hp
    obtain ⟨⟨hl, h0, h1⟩, h⟩ := h
    have e : ∀ {α : Type} (l : List α) (z : α), l.take i.toNat ++ [z] ++ l.drop i.toNat = l.take i.toNat ++ z :: l.drop i.toNat := fun l z => by rw [List.append_assoc]; rfl
    refine ⟨p, ws, i, u, rfl, by rw [rp_int rv], hw, by rw [hr.length]; exact hl, h0, h1, ?_⟩
    rw [e]
    exact q.setq s hp ((hr.cut _).app (.cons ru (hr.off _))) (x := .d .none) (show Rp K fr H .non .none from .non) h
  · exact h.elim
end DL
/-! enumerate of a list or a tuple -/
namespace DL
open PySem PySem.Spec PyProof.Rows L2
section
variable {prog : Program} {w : World} {A : Around} {E : Value → Shared → Prop} {s : Shared}
theorem en_item {t : Bool} {e it l : Addr} {i : Nat} {items : Array Value} {x old : Value} {Q : Value → Shared → Prop} (he : IsEnum s.heap e it i old) (hit : ItAt t s.heap it l i) (hl : SqAt t s.heap l items) (hx : items[i]? = some x) (hne : e ≠ it)
    (hQ : ∀ h', IsEnumOut h' e it ((i : Int) + 1) x s.heap.objs.size → ItAt t h' it l (i + 1) → h'.get? s.heap.objs.size = some { cls := .type "tuple", data := .seq #[.int i s.toks, x] } → h'.objs.size = s.heap.objs.size + 1 →
      (∀ b o, b ≠ e → b ≠ it → s.heap.get? b = some o → h'.get? b = some o) → Q (.ref s.heap.objs.size) { s with heap := h', toks := s.toks + 1 }) :
    wpAny (model prog w) A (Builtin.«enumerate.__next__» ⟨[.ref e], []⟩) (fun fin s' => ∃ v, fin = .done (.ret v) ∧ Q v s') E s := by
  obtain ⟨hp, g, d, tk, os⟩ := s
  (show wpAny _ _ (field (.ref e) 2 >>= _) _ _ _); refine wpAny_bind (wpAny_field he rfl (x := .ref it) rfl (wpAny_bind (nx_item hit hl hx fun h₁ hit₁ hs₁ => ?_)))
  replace hs₁ : Heap.SameBut it hp h₁ := hs₁
  have e1 : IsEnum h₁ e it i old := (hs₁.2 e hne).trans he
  (show wpAny _ _ (field (.ref e) 3 >>= _) _ _ ⟨h₁, g, d, tk, os⟩); refine wpAny_bind (wpAny_field e1 rfl (x := rawInt i) rfl ?_)
  (show wpAny _ _ (field (.ref e) 4 >>= _) _ _ ⟨h₁, g, d, tk, os⟩); refine wpAny_bind (wpAny_field e1 rfl (x := .none) rfl ?_)
  (show wpAny _ _ (mkInt i >>= _) _ _ ⟨h₁, g, d, tk, os⟩); refine wpAny_bind (wpAny_mkInt ?_)
  (show wpAny _ _ (setField (.ref e) 3 (rawInt ((i : Int) + 1)) >>= _) _ _ ⟨h₁, g, d, tk + 1, os⟩); refine wpAny_bind (wpAny_setField_rec e1 (by simp) fun h₂ e2 hs₂ => ?_)
  replace hs₂ : Heap.SameBut e h₁ h₂ := hs₂
  replace e2 : IsEnum h₂ e it ((i : Int) + 1) old := e2
  (show wpAny _ _ (setField (.ref e) 4 .none >>= _) _ _ ⟨h₂, g, d, tk + 1, os⟩); refine wpAny_bind (wpAny_setField_rec e2 (by simp) fun h₃ e3 hs₃ => ?_)
  replace hs₃ : Heap.SameBut e h₂ h₃ := hs₃
  replace e3 : IsEnum h₃ e it ((i : Int) + 1) old := e3
  (show wpAny _ _ (newTuple [.int i tk, x] >>= _) _ _ ⟨h₃, g, d, tk + 1, os⟩); refine wpAny_bind (wpAny_newTuple ?_)
  have e4 : IsEnum (h₃.push { cls := .type "tuple", data := .seq #[.int i tk, x] }) e it ((i : Int) + 1) old := Heap.get?_push_of_some _ e3
  generalize hh : h₃.push { cls := .type "tuple", data := .seq #[.int i tk, x] } = h₄ at e4
  have hsz : h₃.objs.size = hp.objs.size := (hs₃.1.trans hs₂.1).trans hs₁.1
  have hel : e < hp.objs.size := Heap.lt_size he
  have t4 : h₄.get? hp.objs.size = some { cls := .type "tuple", data := .seq #[.int i tk, x] } := by rw [← hh, ← hsz]; exact Heap.get?_push_size _ rfl
  have z4 : h₄.objs.size = hp.objs.size + 1 := by rw [← hh, Heap.size_push, hsz]
  have k4 : ∀ b o, b ≠ e → b ≠ it → hp.get? b = some o → h₄.get? b = some o := fun b o hbe hbi hb => by rw [← hh]; exact Heap.get?_push_of_some _ (hs₃.extBut b o hbe (hs₂.extBut b o hbe (hs₁.extBut b o hbi hb)))
  have i4 : ItAt t h₄ it l (i + 1) := by rw [← hh]; exact ((hit₁.off hs₂.extBut hne.symm).off hs₃.extBut hne.symm).at fun o q => Heap.get?_push_of_some _ q
  (show wpAny _ _ (Builtin.SmallTypes.ownedTupleIsFree (.ref e) >>= _) _ _ ⟨h₄, g, d, tk + 1, os⟩); rw [hsz]
  clear hh e3 hs₃ e2 hs₂ e1 hs₁ hit₁ hsz h₃ h₂ h₁
  refine wpAny_bind ?_
  unfold Builtin.SmallTypes.ownedTupleIsFree; refine wpAny_bind (wpAny_field e4 rfl (x := .none) rfl (wpAny_pure ?_))
  simp only [if_true]; refine wpAny_bind (wpAny_rule (wpAny_bind (wpAny_field e4 rfl (x := old) rfl (wpAny_bind (wpAny_setField_rec e4 (by simp) fun h₅ e5 hs₅ => ?_)))))
  replace hs₅ : Heap.SameBut e h₄ h₅ := hs₅
  replace e5 : IsEnum h₅ e it ((i : Int) + 1) x := e5
  (show wpAny _ _ (Builtin.SmallTypes.ownedTupleHandOut (.ref e) (.ref hp.objs.size) >>= _) _ _ ⟨h₅, g, d, tk + 1, os⟩); refine wpAny_bind ?_
  unfold Builtin.SmallTypes.ownedTupleHandOut; refine wpAny_bind (wpAny_setField_rec e5 (by simp) fun h₆ e6 hs₆ => ?_)
  replace hs₆ : Heap.SameBut e h₅ h₆ := hs₆
  replace e6 : IsEnumOut h₆ e it ((i : Int) + 1) x hp.objs.size := e6
  refine wpAny_setField_rec e6 (by simp) fun h₇ e7 hs₇ => ?_
  replace hs₇ : Heap.SameBut e h₆ h₇ := hs₇
  replace e7 : IsEnumOut h₇ e it ((i : Int) + 1) x hp.objs.size := e7
  exact wpAny_bind (wpAny_letGo (wpAny_pure ⟨_, rfl, hQ h₇ e7 (((i4.off hs₅.extBut hne.symm).off hs₆.extBut hne.symm).off hs₇.extBut hne.symm)
    (hs₇.extBut _ _ (Nat.ne_of_gt hel) (hs₆.extBut _ _ (Nat.ne_of_gt hel) (hs₅.extBut _ _ (Nat.ne_of_gt hel) t4))) (by rw [hs₇.1, hs₆.1, hs₅.1, z4])
    fun b o hbe hbi hb => hs₇.extBut b o hbe (hs₆.extBut b o hbe (hs₅.extBut b o hbe (k4 b o hbe hbi hb)))⟩))
theorem pe_item {t : Bool} {e it l : Addr} {i : Nat} {items : Array Value} {x old : Value} {Q : Option Value → Shared → Prop} (he : IsEnum s.heap e it i old) (hit : ItAt t s.heap it l i) (hl : SqAt t s.heap l items) (hx : items[i]? = some x) (hne : e ≠ it)
    (hQ : ∀ h', IsEnumOut h' e it ((i : Int) + 1) x s.heap.objs.size → ItAt t h' it l (i + 1) → h'.get? s.heap.objs.size = some { cls := .type "tuple", data := .seq #[.int i s.toks, x] } → h'.objs.size = s.heap.objs.size + 1 →
      (∀ b o, b ≠ e → b ≠ it → s.heap.get? b = some o → h'.get? b = some o) → Q (some (.ref s.heap.objs.size)) { s with heap := h', toks := s.toks + 1 }) :
    wpAny (model prog w) A (pyNext (.ref e)) Q E s := by
  have hT : s.TypeIs (.ref e) "enumerate" := ⟨_, he, rfl⟩
  unfold pyNext; exact wpAny_bind (wpAny_attempt (wpAny_callSpecial?_slot (name := Str.ofString "__next__") hT F.slot_enumerate_next (wpAny_call_entry F.slot_enumerate_next hT F.entry_enumerate_next
    (en_item he hit hl hx hne fun h' a b c d k => wpAny_pure (hQ h' a b c d k)) (F.args_enumerate_next_1 _))))
theorem pe_end {t : Bool} {e it l : Addr} {i : Nat} {items : Array Value} {old : Value} {Q : Option Value → Shared → Prop} (hh : A.handled = none) (he : IsEnum s.heap e it i old) (hit : ItAt t s.heap it l i) (hl : SqAt t s.heap l items) (hx : items[i]? = none)
    (hQ : ∀ h', Heap.ExtBut it s.heap h' → Q none { s with heap := h' }) : wpAny (model prog w) A (pyNext (.ref e)) Q E s := by
  have hT : s.TypeIs (.ref e) "enumerate" := ⟨_, he, rfl⟩
  unfold pyNext; refine wpAny_bind (wpAny_attempt (wpAny_callSpecial?_slot (name := Str.ofString "__next__") hT F.slot_enumerate_next (wpAny_call_entry F.slot_enumerate_next hT F.entry_enumerate_next ?_ (F.args_enumerate_next_1 _))))
  (show wpAny _ _ (field (.ref e) 2 >>= _) _ _ _); refine wpAny_bind (wpAny_field he rfl (x := .ref it) rfl (wpAny_bind (nx_end hh hit hl hx fun h' x he' ⟨o, ho, hc⟩ => ?_)))
  exact wpAny_bind (wpAny_isInstance (T := "StopIteration") (b := true) ⟨o, ho, hc⟩ isSubtype_stop (wpAny_pure (hQ _ he')))
end
theorem meets_en1 {v : Value} {o : Obj} {H : Heap → Prop} (B : PySem.Begins v o H) :
    Meets (Builtin.«enumerate.__new__» ⟨[.type "enumerate", v], []⟩) (fun _ R s => H s.heap ∧ R (.ok (.ret (.ref (s.heap.push o).objs.size))) { s with heap := (s.heap.push o).push { cls := .type "enumerate", data := .fields #[.none, .bool false, .ref s.heap.objs.size, rawInt 0, .none, .none] } }) :=
  .of_wp fun prog w A R s h => by
    obtain ⟨hp, g, d, tk, os⟩ := s; obtain ⟨h1, h⟩ := h
    have hsub := sub_enumerate
    have q1 : ∀ {A' : Around} {E : Value → Shared → Prop} {Q : Value → Shared → Prop}, Q (.ref hp.objs.size) ⟨hp.push o, g, d, tk, os⟩ → wpAny (model prog w) A' (pyIter v) Q E ⟨hp, g, d, tk, os⟩ := fun q => B.iter prog w _ _ ⟨hp, g, d, tk, os⟩ _ h1 q
    wp_walk using q1
    refine wpAny_stack_any fun st => wpAny_pure ?_
    split
    · rename_i c _ _ _ _ _
      cases (c == Value.type "enumerate") <;> (wp_walk using q1; exact ⟨_, rfl, h⟩)
    · wp_walk using q1
      exact ⟨_, rfl, h⟩
theorem en_begin {prog : Program} {w : World} {A : Around} {E : Value → Shared → Prop} {s : Shared} {v : Value} {o : Obj} {H : Heap → Prop} {Q : Value → Shared → Prop} (B : PySem.Begins v o H) (h1 : H s.heap)
    (h : ∀ h', IsEnum h' (s.heap.objs.size + 1) s.heap.objs.size 0 .none → h'.get? s.heap.objs.size = some o → (∀ b o, s.heap.get? b = some o → h'.get? b = some o) → Q (.ref (s.heap.objs.size + 1)) { s with heap := h' }) :
    wpAny (model prog w) A (call (.type "enumerate") [v]) Q E s := by
  refine callType_new F.called_enumerate (by decide) (F.typeCall_enumerate_1 _) (F.newCall_enumerate_1 _) (fun obj => F.args_object_init_2 obj _) F.entry_enumerate_new (meets_en1 B) ⟨h1, ?_⟩
  have hz : (s.heap.push o).objs.size = s.heap.objs.size + 1 := Heap.size_push ..
  show _ ∧ _
  rw [hz]
  have he := Heap.get?_push_size (s.heap.push o) (o := { cls := .type "enumerate", data := .fields #[.none, .bool false, .ref s.heap.objs.size, rawInt 0, .none, .none] }) rfl
  rw [hz] at he
  exact ⟨⟨_, he, rfl⟩, h _ he (Heap.get?_push_of_some _ (Heap.get?_push_size _ B.free)) fun b o x => Heap.get?_push_of_some _ (Heap.get?_push_of_some _ x)⟩
def IteB (K : PySem.W.Frag) (t : Bool) (a : Addr) : It :=
  ⟨fun i H => ∃ (xs : List V) (x : V), SqK K H a t xs ∧ xs[i]? = some x, fun i H v H' => ∃ T x, v = .ref T ∧ H T = none ∧ H' = upd H T (.tup [.int (i : Nat), x]) ∧ ∀ xs, SqK K H a t xs → xs[i]? = some x, fun i H => ∃ xs : List V, SqK K H a t xs ∧ xs.length ≤ i⟩
theorem turn_en {P : Program} {w : World} {K : PySem.W.Frag} {elts : List Expr} {kk : Nat} {tpos : Pos} {t : Bool} {a e it : Addr} :
    Turn P w K (.Tuple elts kk tpos) (IteB K t a) [e, it] e (fun i h => (∃ old, IsEnum h e it ((i : Nat) : Int) old) ∧ ItAt t h it a i ∧ e ≠ it) where
  mem := by simp
  obj := fun i h st b hb => by
    obtain ⟨⟨old, he⟩, hit, _⟩ := st
    have e' : b = e ∨ b = it := by simpa using hb
    rcases e' with rfl | rfl
    · exact ⟨_, he, fun v q => nomatch q⟩
    · exact hit.here
  keep := fun i h h' ⟨⟨old, he⟩, hi, hne⟩ k => ⟨⟨old, k e (by simp) _ he⟩, hi.at fun o q => k it (by simp) o q, hne⟩
  item := by
    intro X hP hw hK hc i pins s σ H E I hf st hg
    subst hP hw hK
    obtain ⟨⟨old, he⟩, hit, hne⟩ := st
    obtain ⟨xs, x, hq, hx⟩ := hg
    obtain ⟨its, rv, p, _⟩ := sqk_at I hq
    obtain ⟨u, hu, ru⟩ := rv.get hx
    have hel : e < s.heap.objs.size := Heap.lt_size he
    have hil : it < s.heap.objs.size := by obtain ⟨_, q, _⟩ := hit.here; exact Heap.lt_size q
    refine pe_item he hit p (x := u) (by simpa using hu) hne fun h' ho hit' hT hsz hk => ⟨_, rfl, wpAny_letOwnedTupleGo_enum (s := { s with heap := h', toks := s.toks + 1 }) ho fun h'' he' sb => ?_⟩
    have hT2 : h''.get? s.heap.objs.size = some { cls := .type "tuple", data := .seq #[.int i s.toks, u] } := (sb.2 _ (Nat.ne_of_gt hel)).trans hT
    have new : ObjOk X.prog X.w (upd H s.heap.objs.size (.tup [.int (i : Nat), x])) h'' s.heap.objs.size (.tup [.int (i : Nat), x]) := ⟨(by decide : 2 ≤ sizeLine), [.int i s.toks, u], .cons ⟨_, rfl⟩ (.cons ru .nil), ⟨_, hT2, rfl, _, rfl⟩⟩
    have I1 : Inv X pins σ (upd H s.heap.objs.size (.tup [.int (i : Nat), x])) { s with heap := h'', toks := s.toks + 1 } :=
      I.turnedNew (ch := [e, it]) (fun b ob hb q => (sb.2 b (fun z => hb (by simp [z]))).trans (hk b ob (fun z => hb (by simp [z])) (fun z => hb (by simp [z])) q)) hf (Nat.le_refl _) new
    refine ⟨.ref s.heap.objs.size, _, I1, rfl, ⟨_, x, rfl, I.hok.fresh (Nat.le_refl _), rfl, fun ys hy => by rw [sqk_inj I hy hq]; exact hx⟩, ⟨⟨u, ?_⟩, hit'.at fun o q => (sb.2 it (Ne.symm hne)).trans q, hne⟩, fun b hb => ?_⟩
    · rw [show ((i + 1 : Nat) : Int) = (i : Int) + 1 from rfl]; exact he'
    · have hb' : b < s.heap.objs.size := by
        have e' : b = e ∨ b = it := by simpa using hb
        rcases e' with z | z
        · rw [z]; exact hel
        · rw [z]; exact hil
      rw [upd_ne (Nat.ne_of_lt hb')]
      exact (hf b hb).1
  done := by
    intro X hP hw hK hc i pins s σ H E I hf st hg
    subst hP hw hK
    obtain ⟨⟨old, he⟩, hit, hne⟩ := st
    obtain ⟨xs, hq, hx⟩ := hg
    obtain ⟨its, rv, p, _⟩ := sqk_at I hq
    have hl := rv.length
    obtain ⟨f0, f1, f2, f3, f4, f5⟩ := hf it (by simp)
    exact pe_end (I.ok.hd hc) he hit p (by simp; omega) fun h' eb => ⟨rfl, I.turned (t' := s.toks) (fun b o hb q => eb b o hb q) f0 f1 f3 f4 f5⟩
  self := fun A i s Q E st h => let ⟨⟨_, he⟩, _⟩ := st; wpAny_pyIter_enum he h
def tEnB (K : PySem.W.Frag) (ta : TA) : TI := fun σ H R => ta σ H fun vs H1 => ∃ a t xs, vs = [.ref a] ∧ SqK K H1 a t xs ∧ R (IteB K t a) H1
theorem pi_enB {X : Cx} {e : Expr} {ta : TA} {p pos tpos : Pos} {elts : List Expr} {kk : Nat} (hg : Gl X "enumerate") (hm : X.mg "enumerate" = none) (ha : PA X [e] ta) (hs : starEach [e] X.env = [(false, eval e X.env)] := by rfl) :
    PI X (.Tuple elts kk tpos) (.Call (.Name "enumerate" p) [e] [] pos) (tEnB X.K ta) := by
  refine ⟨fun pins s σ H R I h => ?_⟩
  refine Call_ (ld_blt I hg hm PyProof.Rows.boot_enumerate (PyProof.Rows.callWith_type1 (thn (ha.run pos pins s σ H _ I h) fun us s1 ⟨vs, H1, I1, r1, a, t, xs, ex, hq, q⟩ => ?_) hs rfl))
  subst ex
  cases r1 with
  | cons r rr =>
    cases rr; cases r
    obtain ⟨its, rv, p', la⟩ := sqk_at I1 hq
    refine en_begin (beg_k t a its.toArray) p' fun h' he hit hk => wpAny_pyIter_enum he ?_
    refine ⟨_, [s1.heap.objs.size + 1, s1.heap.objs.size], _, _, H1, rfl, I1.kept (t' := s1.toks) hk, turn_en, ⟨⟨.none, he⟩, it0 hit, Nat.succ_ne_self _⟩, fun b hb => ?_, q⟩
    have hle : s1.heap.objs.size ≤ b := by
      have e' : b = s1.heap.objs.size + 1 ∨ b = s1.heap.objs.size := by simpa using hb
      rcases e' with z | z <;> (rw [z]; simp)
    exact I1.fpOk hle (I1.hok.fresh hle)
def iEnT (ta : DTA) : DTI := fun ρ st k => ta ρ st fun xs st1 => match xs with
  | [x] => (match seqOf st1 x with
    | some us => (match allD us with
      | some ds => k (enD ds) (stays x us) st1
      | none => False)
    | none => False)
  | _ => False
theorem i_enumT {X : Cx} {e : Expr} {ta : DTA} {p pos tpos : Pos} {elts : List Expr} {kk : Nat} (hm : X.mg "enumerate" = none) (ha : DA X [e] ta) (hg : Gl X "enumerate" := by rfl) (hs : starEach [e] X.env = [(false, eval e X.env)] := by rfl) :
    DI X (.Tuple elts kk tpos) (.Call (.Name "enumerate" p) [e] [] pos) (iEnT ta) := pi_imp (pi_enB hg hm ha hs) fun σ H R h1 => by
  obtain ⟨fr, ρ, st, k, w, h, q⟩ := h1
  refine ⟨fr, ρ, st, _, w, h, fun xs st1 fr1 H1 vs k1 e1 s1 r1 => ?_⟩
  split at k1
  · split at k1
    · next us hu =>
      split at k1
      · next ds hd =>
        cases r1 with
        | cons ra rr =>
          cases rr
          obtain ⟨a, t, rfl, sa, ga⟩ := seq_kind s1 ra hu
          obtain ⟨xa, qa, _⟩ := ga _ _ _ (Ext.refl _ _ _) s1 sa
          refine ⟨a, t, xa, rfl, qa, q _ _ _ _ _ _ k1 e1 s1 fun i fr2 H2 st2 e2 s2 y2 => ?_⟩
          obtain ⟨ws, q2, r2⟩ := ga fr2 H2 st2 e2 s2 y2
          rw [allD_eq hd] at r2
          refine ⟨fun x hx => ?_, fun hi => ⟨ws, q2, by rw [enD_len] at hi; rw [r2.toRp.length]; exact hi⟩⟩
          obtain ⟨d, hd', rfl⟩ := enD_get hx
          obtain ⟨v, hv, rv⟩ := r2.toRp.get hd'
          refine ⟨⟨ws, v, q2, hv⟩, fun z H3 y3 => ?_⟩
          obtain ⟨T, x, rfl, hT, rfl, g⟩ := y3
          have ex : x = v := Option.some.inj ((g ws q2).symm.trans hv)
          subst ex
          exact pr_new s2 hT (.int _) rv
      · exact k1.elim
    · exact k1.elim
  · exact k1.elim
/-! ### tuple(range(..)) -/
theorem rg_rp {K : PySem.W.Frag} {fr : Fz} {H : Hp} (a b : Int) : RpAll K fr H (rgV a b) ((List.range (b - a).toNat).map fun i => PyData.int (a + (i : Nat))) := by
  unfold rgV
  generalize List.range (b - a).toNat = l
  induction l with
  | nil => exact .nil
  | cons i r ih => exact .cons (.int _) ih
def rngD (a : Int) (n : Nat) : List PyData := (List.range n).map fun i => PyData.int (a + (i : Nat))
def dTupRg1 (ta : DTE) : DTE := fun ρ st k => ta ρ st fun x st1 => match x with
  | .d (.int n) => RgOk 0 n ∧ k (.d (.tuple (rngD 0 (n - 0).toNat))) st1
  | _ => False
def dTupRg2 (ta tb : DTE) : DTE := fun ρ st k => ta ρ st fun x st1 => tb ρ st1 fun y st2 => match x, y with
  | .d (.int a), .d (.int b) => RgOk a b ∧ k (.d (.tuple (rngD a (b - a).toNat))) st2
  | _, _ => False
theorem d_tupRg1 {X : Cx} {e : Expr} {te : DTE} {p p2 pos pos2 : Pos} (hml : X.mg "tuple" = none) (hmr : X.mg "range" = none) (he : DE X e te) (hc : X.calm = true := by rfl) (hgl : Gl X "tuple" := by rfl) (hgr : Gl X "range" := by rfl)
    (na : starEach [e] X.env = (false, eval e X.env) :: starEach [] X.env := by rfl) (nb : starEach [.Call (.Name "range" p2) [e] [] pos2] X.env = (false, eval (.Call (.Name "range" p2) [e] [] pos2) X.env) :: starEach [] X.env := by rfl) :
    DE X (.Call (.Name "tuple" p) [.Call (.Name "range" p2) [e] [] pos2] [] pos) (dTupRg1 te) := pe_imp (pe_tupRg hc hgl hml (prg_1 hgr hmr he na) nb) fun σ H Q h1 => by
  obtain ⟨fr, ρ, st, k, w, h, q⟩ := h1
  refine ⟨fr, ρ, st, _, w, h, fun x st1 fr1 H1 v k1 e1 s1 r1 => ?_⟩
  split at k1
  · exact ⟨_, rp_int r1, k1.1, fun p n => (q.at e1).tup s1 (rg_rp _ _) k1.2 n⟩
  · exact k1.elim
theorem d_tupRg2 {X : Cx} {e e2 : Expr} {te te2 : DTE} {p p2 pos pos2 : Pos} (hml : X.mg "tuple" = none) (hmr : X.mg "range" = none) (he : DE X e te) (he2 : DE X e2 te2) (hc : X.calm = true := by rfl) (hgl : Gl X "tuple" := by rfl) (hgr : Gl X "range" := by rfl)
    (na : starEach [e, e2] X.env = (false, eval e X.env) :: starEach [e2] X.env := by rfl) (nc : starEach [e2] X.env = (false, eval e2 X.env) :: starEach [] X.env := by rfl) (hp : (backTo pos2 (starEach [e2] X.env)).any (·.1) = false := by rfl)
    (nb : starEach [.Call (.Name "range" p2) [e, e2] [] pos2] X.env = (false, eval (.Call (.Name "range" p2) [e, e2] [] pos2) X.env) :: starEach [] X.env := by rfl) :
    DE X (.Call (.Name "tuple" p) [.Call (.Name "range" p2) [e, e2] [] pos2] [] pos) (dTupRg2 te te2) := pe_imp (pe_tupRg hc hgl hml (prg_2 hgr hmr he he2 na nc hp) nb) fun σ H Q h1 => by
  obtain ⟨fr, ρ, st, k, w, h, q⟩ := h1
  refine ⟨fr, ρ, st, _, w, h, fun x st1 fr1 H1 v k1 e1 s1 r1 => ⟨fr1, ρ, st1, _, w.on e1 s1, k1, fun y st2 fr2 H2 u k2 e2 s2 r2 => ?_⟩⟩
  split at k2
  · exact ⟨_, _, rp_int r1, rp_int r2, k2.1, fun p n => (q.at (e1.trans e2)).tup s2 (rg_rp _ _) k2.2 n⟩
  · exact k2.elim
/-- an expression that is never come to -/
def dBot : DTE := fun _ _ _ => False
theorem d_bot {X : Cx} {e : Expr} : DE X e dBot := ⟨fun _ _ _ _ _ _ ⟨_, _, _, _, _, h, _⟩ => h.elim⟩
end DL
namespace DL
open PySem PySem.Spec PyProof.Rows L2
/-- sorted of a list of ints -/
def fSorted : DL1 := fun xs st k => match xs with
  | [x] => (match lstOf st x with
    | some ys => (match intsOf ys with
      | some ns => ∀ ms : List Int, ms.Perm ns → ms.Pairwise (· ≤ ·) → dNew ((ms.map PyData.int).map Sl.d) st k
      | none => False)
    | none => False)
  | _ => False
theorem sls_of_ints {K : PySem.W.Frag} {fr : Fz} {H : Hp} : ∀ ns : List Int, SlsR K fr H (ns.map V.int) ((ns.map PyData.int).map Sl.d)
  | [] => .nil
  | _ :: r => .cons (.int _) (sls_of_ints r)
theorem rl_sorted {K : PySem.W.Frag} : RLD K (rSortedI K) fSorted := fun fr H st xs sxs k Q s rx h q => by
  unfold fSorted at h
  split at h
  · obtain ⟨v, rfl, r⟩ := sls1 rx
    split at h
    · next ys hy =>
      split at h
      · next ns hn =>
        obtain ⟨a, ws, rfl, h1, h2⟩ := lst_at s r hy
        rw [intsOf_eq hn] at h2
        rw [sls_ints h2] at h1
        exact ⟨a, ns, rfl, h1, fun ms p hp ho n => q.lst s (sls_of_ints ms) (h ms hp ho) n⟩
      · exact h.elim
    · exact h.elim
  · exact h.elim
end DL
namespace DL
open PySem PySem.Spec PyProof.Rows L2
/-- a def of which nothing is promised -/
theorem FnG.none {P : Program} {w : World} {K : PySem.W.Frag} {mg : Str → Option Value} {base : Heap} {CX : CXT} {lv : Nat} {f : Addr} {fd : FuncData} {ps : List Str} {wp : DWP} (h : ∀ xs s k ke, ¬ wp xs s k ke) : FnG P w K mg base CX lv f fd ps wp :=
  ⟨fun xs s k ke z => (h xs s k ke z).elim, fun A outer s H args us vs Q E _ _ _ _ _ hsp => by
    obtain ⟨fr, st, xs, k, ke, _, _, hw, _⟩ := hsp
    exact (h xs st k ke hw).elim⟩
end DL
namespace DL
open PySem PySem.Spec PyProof.Rows L2
/-! ### an object that is made ahead and filled late -/
section
variable {K : PySem.W.Frag} {fr fr2 : Fz} {H H2 : Hp} {st st2 : Store} {p : Addr} {o0 o : HO} {c : Cell}
theorem Ext.late (n : H p = none) (e : Ext fr (upd H p o0) st fr2 H2 st2) : Ext fr H st fr2 (upd H2 p o) (cset st2 p c) := by
  have ne : ∀ {a : Addr} {u : HO}, H a = some u → a ≠ p := fun h z => by rw [z, n] at h; cases h
  have up : ∀ {a : Addr}, a ≠ p → upd H p o0 a = H a := fun h => upd_ne h
  refine ⟨fun a u h s => ?_, fun a h => ?_, e.frk, fun a h => ?_, fun a h => ?_, fun a xs h => ?_⟩
  · rw [upd_ne (ne h)]
    exact e.keep a u (by rw [up (ne h)]; exact h) s
  · by_cases z : a = p
    · rw [z, upd_same]
      simp
    · rw [upd_ne z]
      exact e.there a (by rw [up z]; exact h)
  · rcases e.frn a h with q | q | q
    · exact .inl q
    · refine .inr (.inl ?_)
      by_cases z : a = p
      · rw [z, upd_same] at q
        cases q
      · rw [up z] at q
        exact q
    · exact .inr (.inr q)
  · by_cases z : a = p
    · exact .inr (z ▸ n)
    · rw [cset_ne z] at h
      rcases e.dom a h with q | q
      · exact .inl q
      · rw [up z] at q
        exact .inr q
  · obtain ⟨ys, q⟩ := e.lk a xs (by rw [up (ne h)]; exact h)
    exact ⟨ys, by rw [upd_ne (ne h)]; exact q⟩
theorem StR.adopt (s : StR K fr H st) (nf : ¬ fr p) (r : CellR K fr H p c) : StR K fr H (cset st p c) := by
  refine ⟨fun a d h => ?_, s.low⟩
  by_cases z : a = p
  · subst z
    rw [cset_same] at h
    cases h
    exact ⟨nf, r⟩
  · rw [cset_ne z] at h
    exact s.own a d h
/-- a dict that was made ahead, empty, is filled -/
theorem dk_late {κ : Type} {es : List (Key × Sl)} {ws : List (Key × V)} (s : StR K fr H st) (n : H p = none) (e : Ext fr (upd H p (.dK [])) st fr2 H2 st2) (s2 : StR K fr2 H2 st2) (r : KsR K fr2 H2 ws es) :
    H2 p = some (.dK []) ∧ Ext fr H st fr2 (upd H2 p (.dK ws)) (cset st2 p (.k es)) ∧ StR K fr2 (upd H2 p (.dK ws)) (cset st2 p (.k es)) := by
  have hp : H2 p = some (.dK []) := e.keep p _ upd_same (s.nost n)
  have nfr : ¬ fr2 p := fun z => by
    rcases e.frn p z with q | q | q
    · exact s.low p q n
    · rw [upd_same] at q
      cases q
    · exact q (s.nost n)
  have nst : st2 p = none := Classical.byContradiction fun z => by
    rcases e.dom p z with q | q
    · exact q (s.nost n)
    · rw [upd_same] at q
      cases q
  have s3 : StR K fr2 H2 (cset st2 p (.k [])) := s2.adopt nfr ⟨[], hp, .nil⟩
  have t : ∀ us, H2 p ≠ some (.tup us) := fun us z => by rw [hp] at z; cases z
  have l : ∀ xs, H2 p = some (.lst xs) → ∃ ys, HO.dK ws = .lst ys := fun xs z => by rw [hp] at z; cases z
  have e3 : Ext fr2 H2 (cset st2 p (.k [])) fr2 (upd H2 p (.dK ws)) (cset (cset st2 p (.k [])) p (.k es)) := ext_cset cset_same t l
  have s4 := str_cset (d := .k es) (o := .dK ws) cset_same t l s3 ⟨ws, upd_same, (KsR.ex s3.ow e3 (by
    have : KsR K fr2 H2 ws es := r
    exact this))⟩
  rw [cset_cset] at s4
  exact ⟨hp, Ext.late n e, s4⟩
end
/-! ### {..} -/
abbrev DPs := List (DTE × DTE)
def dPairs : List (DTE × DTE) → Sls → Store → (List (Key × Sl) → Store → Prop) → Prop
  | [], _, st, k => k [] st
  | (tk, tv) :: r, ρ, st, k => tk ρ st fun x st1 => tv ρ st1 fun y st2 => match keyOf x with
    | some key => dPairs r ρ st2 fun es st3 => k ((key, y) :: es) st3
    | none => False
def mergeS (es more : List (Key × Sl)) : List (Key × Sl) := more.foldl (fun acc e => putS acc e.1 e.2) es
theorem KsR.merge {K : PySem.W.Frag} {fr : Fz} {H : Hp} {more : List (Key × V)} {xs : List (Key × Sl)} (r : KsR K fr H more xs) : ∀ {ws : List (Key × V)} {es : List (Key × Sl)}, KsR K fr H ws es → KsR K fr H (mergeK ws more) (mergeS es xs) := by
  induction r with
  | nil => intro ws es h; exact h
  | cons a b ih =>
    intro ws es h
    exact ih (h.put _ a)
def dDisp (ps : List (DTE × DTE)) : DTE := fun ρ st k => dPairs ps ρ st fun es st1 => es.length ≤ 15 ∧ ∀ p, st1 p = none → k (.o p) (cset st1 p (.k (mergeS [] es)))
def dDict0 : DTE := fun _ st k => ∀ p, st p = none → k (.o p) (cset st p (.k []))
theorem d_dict0 {X : Cx} {pos : Pos} : DE X (.Dict [] [] pos) dDict0 := pe_imp pe_dnewK fun σ H Q ⟨fr, ρ, st, k, w, h, q⟩ => fun p n =>
  q (.o p) _ fr _ _ (h p (w.sto.nost n)) (Ext.ownC n) (w.sto.ownC n ⟨[], upd_same, .nil⟩) rfl
theorem le_pairs {K : PySem.W.Frag} {σ : L2.St} : ∀ {ps : List (DTE × DTE)} {H : Hp} {Q : List (V × V) → Hp → Prop} {fr : Fz} {ρ : Sls} {st : Store} {k : List (Key × Sl) → Store → Prop}, Wd K fr H σ ρ st → dPairs ps ρ st k →
    (∀ es st' fr' H' kvs, k es st' → Ext fr H st fr' H' st' → StR K fr' H' st' → KsR K fr' H' kvs es → Q (kvs.map fun kv => (kV kv.1, kv.2)) H') → tPairs (ps.map fun p => (LE K p.1, LE K p.2)) σ H Q
  | [], H, Q, fr, ρ, st, k, w, h, q => q [] st fr H [] h (Ext.refl _ _ _) w.sto .nil
  | (tk, tv) :: r, H, Q, fr, ρ, st, k, w, h, q => by
    refine ⟨fr, ρ, st, _, w, h, fun x st1 fr1 H1 v k1 e1 s1 r1 => ⟨fr1, ρ, st1, _, w.on e1 s1, k1, fun y st2 fr2 H2 u k2 e2 s2 r2 => ?_⟩⟩
    split at k2
    · next key hk =>
      refine le_pairs ((w.on e1 s1).on e2 s2) k2 fun es st3 fr3 H3 kvs k3 e3 s3 r3 => ?_
      have hv := key_at r1 hk
      subst hv
      exact q _ _ _ _ ((key, u) :: kvs) k3 ((e1.trans e2).trans e3) s3 (.cons (r2.ex s2.ow e3) r3)
    · exact k2.elim
structure DPP (X : Cx) (pos : Pos) (keys : List (Option Expr)) (values : List Expr) (ps : List (DTE × DTE)) : Prop where
  ok : PPs X pos keys values (ps.map fun p => (LE X.K p.1, LE X.K p.2))
theorem dp_nil {X : Cx} {pos : Pos} : DPP X pos [] [] [] := ⟨pps_nil⟩
theorem dp_cons {X : Cx} {pos : Pos} {k v : Expr} {ks : List (Option Expr)} {vs : List Expr} {tk tv : DTE} {ps : List (DTE × DTE)} (hk : DE X k tk) (hv : DE X v tv) (hr : DPP X pos ks vs ps) : DPP X pos (some k :: ks) (v :: vs) ((tk, tv) :: ps) := ⟨pps_cons hk hv hr.ok⟩
theorem d_disp {X : Cx} {pos : Pos} {keys : List (Option Expr)} {values : List Expr} {ps : List (DTE × DTE)} (h : DPP X pos keys values ps) (hall : keys.all (·.isSome) = true := by rfl) (hl : keys.length = values.length := by rfl) (h0 : keys ≠ [] := by exact fun z => by cases z) (h15 : keys.length ≤ 15 := by decide) :
    DE X (.Dict keys values pos) (dDisp ps) := pe_imp (pe_disp h.ok hall hl h0 h15) fun σ H Q ⟨fr, ρ, st, k, w, h, q⟩ => fun p n => by
  have e0 : Ext fr H st fr (upd H p (.dK [])) st := Ext.new n
  refine le_pairs (w.on e0 (w.sto.new n)) h fun es st1 fr1 H1 kvs k1 e1 s1 r1 => ?_
  obtain ⟨g1, g2, g3⟩ := dk_late (κ := Key) w.sto n e1 s1 (r1.merge .nil)
  have nst : st1 p = none := Classical.byContradiction fun z => by
    rcases e1.dom p z with q | q
    · exact q (w.sto.nost n)
    · rw [upd_same] at q
      cases q
  exact ⟨g1, kvs, rfl, by rw [r1.length]; exact k1.1, q (.o p) _ _ _ _ (k1.2 p nst) g2 g3 rfl⟩
/-! ### o[i] = e of own lists and own dicts -/
def gSb2 (to ti : DTE) : DTG := fun x ρ st k => to ρ st fun o st1 => ti ρ st1 fun i st2 => match o with
  | .o p => (match st2 p with
    | some (.l xs) => (match i with
      | .d (.int i) => (match ixN xs.length i with
        | some j => k ρ (sset st2 p (xs.set j x))
        | none => False)
      | _ => False)
    | some (.k es) => (match keyOf i with
      | some key => es.length < sizeLine ∧ k ρ (cset st2 p (.k (putS es key x)))
      | none => False)
    | _ => False)
  | _ => False
theorem g_sub2 {X : Cx} {pos : Pos} {o i : Expr} {to ti : DTE} {vs : List Nat} (hu : X.A.units + 1 < cLine) (ho : DE X o to) (hi : DE X i ti)
    (ha : ∀ v, assign (.Subscript o i pos) X.env v = (do
      let ov ← holding [v] (eval o X.env)
      let iv ← holding [v, ov] (eval i X.env)
      standAt pos
      holding [v, ov, iv] (setItem ov iv v)
      release [v, ov, iv] []) := by intro _; rfl) : DG X vs (.Subscript o i pos) (gSb2 to ti) := pg_imp (pg_sub ho hi (PSet.or set_list (set_dct hu)) ha) fun v σ H Q ⟨fr, ρ, st, x, k, w, r, h, q⟩ =>
  ⟨fr, ρ, st, _, w, h, fun a st1 fr1 H1 u k1 e1 s1 r1 => ⟨fr1, ρ, st1, _, w.on e1 s1, k1, fun b st2 fr2 H2 y k2 e2 s2 r2 => by
    have hv : SlR X.K fr2 H2 v x := r.ex w.ow (e1.trans e2)
    split at k2
    · next p =>
      split at k2
      · next xs hx =>
        split at k2
        · next i =>
          split at k2
          · next j hj =>
            obtain ⟨_, ws, hw, hr⟩ := s2.own p _ hx
            refine .inl ⟨p, ws, i, j, r1, rp_int r2, hw, by rw [hr.length]; exact hj, ?_⟩
            have e3 : Ext fr2 H2 st2 fr2 (upd H2 p (.lst (ws.set j v))) (sset st2 p (xs.set j x)) := ext_set hx s2
            exact q _ _ _ _ _ k2 ((e1.trans e2).trans e3) (w.on ((e1.trans e2).trans e3) (str_set hx s2 (SlsR.put hv j hr))) rfl
          · exact k2.elim
        · exact k2.elim
      · next es hx =>
        split at k2
        · next key hk =>
          obtain ⟨_, ws, hw, hr⟩ := s2.own p _ hx
          have t : ∀ us, H2 p ≠ some (.tup us) := fun us z => by rw [hw] at z; cases z
          have l : ∀ xs, H2 p = some (.lst xs) → ∃ ys, HO.dK (putK ws key v) = .lst ys := fun xs z => by rw [hw] at z; cases z
          have e3 : Ext fr2 H2 st2 fr2 (upd H2 p (.dK (putK ws key v))) (cset st2 p (.k (putS es key x))) := ext_cset hx t l
          have s3 := str_cset (d := .k (putS es key x)) (o := .dK (putK ws key v)) hx t l s2 ⟨_, upd_same, (hr.put key hv).ex s2.ow e3⟩
          have hy := key_at r2 hk
          subst hy
          refine .inr ⟨p, _, r1, DPut.k hw (by rw [hr.length]; exact k2.1), ?_⟩
          exact q _ _ _ _ _ k2.2 ((e1.trans e2).trans e3) (w.on ((e1.trans e2).trans e3) s3) rfl
        · exact k2.elim
      · exact k2.elim
    · exact k2.elim⟩⟩
/-! ### tuples with own parts -/
def dTup2 (ta : DTA) : DTE := fun ρ st k => ta ρ st fun xs st1 => xs.length ≤ sizeLine ∧ (match allD xs with
  | some ds => k (.d (.tuple ds)) st1
  | none => k (mkT xs) st1)
theorem d_tup2 {X : Cx} {pos : Pos} {es : List Expr} {t : DTA} {x1} (h : DA X es t) : DE X (.Tuple es x1 pos) (dTup2 t) := pe_imp (pe_tup h) fun σ H Q ⟨fr, ρ, st, k, w, h, q⟩ =>
  ⟨fr, ρ, st, _, w, h, fun xs st1 fr1 H1 vs k1 e1 s1 r1 => by
    refine ⟨by rw [r1.length]; exact k1.1, fun p n => ?_⟩
    have k2 := k1.2
    split at k2
    · next ds hd =>
      rw [allD_eq hd] at r1
      exact (q.at e1).tup s1 r1.toRp k2 n
    · exact (q.at e1) (mkT xs) _ fr1 _ _ k2 (Ext.new n) (s1.new n) (mkT_val (r1.ex s1.ow (Ext.new n)) (SqT.of upd_same))⟩
/-! ### more built-ins -/
/-- int(x) of an int, of a truth -/
def fInt : DL1 := fun xs st k => match xs with
  | [.d (.int i)] => k (.d (.int i)) st
  | [.d (.bool b)] => k (.d (.int (if b then 1 else 0))) st
  | _ => False
theorem rl_int {K : PySem.W.Frag} : RLD K (fun xs H Q => (∃ i, xs = [.int i] ∧ Q (.int i) H) ∨ ∃ k, xs = [.bl k] ∧ Q (.int (if k then 1 else 0)) H) fInt := fun fr H st xs sxs k Q s rx h q => by
  unfold fInt at h
  split at h
  · obtain ⟨v, rfl, r⟩ := sls1 rx
    exact .inl ⟨_, by rw [rp_int r], q.now h s (.int _)⟩
  · obtain ⟨v, rfl, r⟩ := sls1 rx
    exact .inr ⟨_, by rw [rp_bool r], q.now h s (.int _)⟩
  · exact h.elim
/-- max(xs), min(xs) of a list of ints -/
def fMax : DL1 := fun xs st k => match xs with
  | [x] => (match lstOf st x with
    | some ys => (match intsOf ys with
      | some ns => 0 < ns.length ∧ ∀ m, m ∈ ns → (∀ y, y ∈ ns → y ≤ m) → k (.d (.int m)) st
      | none => False)
    | none => False)
  | _ => False
def fMin : DL1 := fun xs st k => match xs with
  | [x] => (match lstOf st x with
    | some ys => (match intsOf ys with
      | some ns => 0 < ns.length ∧ ∀ m, m ∈ ns → (∀ y, y ∈ ns → m ≤ y) → k (.d (.int m)) st
      | none => False)
    | none => False)
  | _ => False
theorem rl_max {K : PySem.W.Frag} : RLD K (rMax K) fMax := fun fr H st xs sxs k Q s rx h q => by
  unfold fMax at h
  split at h
  · obtain ⟨v, rfl, r⟩ := sls1 rx
    split at h
    · next ys hy =>
      split at h
      · next ns hn =>
        obtain ⟨a, ws, rfl, h1, h2⟩ := lst_at s r hy
        rw [intsOf_eq hn] at h2
        rw [sls_ints h2] at h1
        exact ⟨a, ns, rfl, h1, h.1, fun m hm hy => q.now (h.2 m hm hy) s (.int _)⟩
      · exact h.elim
    · exact h.elim
  · exact h.elim
theorem rl_min {K : PySem.W.Frag} : RLD K (rMin K) fMin := fun fr H st xs sxs k Q s rx h q => by
  unfold fMin at h
  split at h
  · obtain ⟨v, rfl, r⟩ := sls1 rx
    split at h
    · next ys hy =>
      split at h
      · next ns hn =>
        obtain ⟨a, ws, rfl, h1, h2⟩ := lst_at s r hy
        rw [intsOf_eq hn] at h2
        rw [sls_ints h2] at h1
        exact ⟨a, ns, rfl, h1, h.1, fun m hm hy => q.now (h.2 m hm hy) s (.int _)⟩
      · exact h.elim
    · exact h.elim
  · exact h.elim
/-! ### sorted -/
def intsD : List PyData → Option (List Int)
  | [] => some []
  | .int i :: r => (match intsD r with
    | some ns => some (i :: ns)
    | none => none)
  | _ :: _ => none
theorem intsD_eq : ∀ {xs : List PyData} {ns : List Int}, intsD xs = some ns → xs = ns.map PyData.int
  | [], _, h => by
    cases h
    rfl
  | x :: r, ns, h => by
    unfold intsD at h
    split at h
    · next e => cases e
    · next i r' e =>
      cases e
      split at h
      · next ms hm =>
        cases h
        rw [List.map_cons, intsD_eq hm]
      · cases h
    · cases h
theorem intsD_map : ∀ ns : List Int, intsD (ns.map PyData.int) = some ns
  | [] => rfl
  | n :: r => by
    rw [List.map_cons]
    unfold intsD
    rw [intsD_map r]
def tupI (ns : List Int) : PyData := .tuple (ns.map PyData.int)
def tupsOf : List Sl → Option (List (List Int))
  | [] => some []
  | .d (.tuple ds) :: r => (match intsD ds, tupsOf r with
    | some ns, some ms => some (ns :: ms)
    | _, _ => none)
  | _ :: _ => none
theorem tupsOf_eq : ∀ {xs : List Sl} {ms : List (List Int)}, tupsOf xs = some ms → xs = ms.map fun m => Sl.d (tupI m)
  | [], _, h => by
    cases h
    rfl
  | x :: r, ms, h => by
    unfold tupsOf at h
    split at h
    · next e => cases e
    · next ds r' e =>
      cases e
      split at h
      · next ns ms' h1 h2 =>
        cases h
        rw [List.map_cons, tupsOf_eq h2, intsD_eq h1]
        rfl
      · cases h
    · cases h
theorem tupsOf_map : ∀ ms : List (List Int), tupsOf (ms.map fun m => Sl.d (tupI m)) = some ms
  | [] => rfl
  | m :: r => by
    rw [List.map_cons]
    unfold tupI tupsOf
    rw [intsD_map, show (r.map fun m => Sl.d (.tuple (m.map PyData.int))) = r.map fun m => Sl.d (tupI m) from rfl, tupsOf_map r]
def strsOf : List (Key × Sl) → Option (List Str)
  | [] => some []
  | (.inr x, _) :: r => (match strsOf r with
    | some ks => some (x :: ks)
    | none => none)
  | _ :: _ => none
theorem strsOf_eq : ∀ {es : List (Key × Sl)} {ks : List Str}, strsOf es = some ks → es.map (·.1) = ks.map Sum.inr
  | [], _, h => by
    cases h
    rfl
  | x :: r, ks, h => by
    unfold strsOf at h
    split at h
    · next e => cases e
    · next x r' e =>
      cases e
      split at h
      · next ks' hk =>
        cases h
        rw [List.map_cons, List.map_cons, strsOf_eq hk]
      · cases h
    · cases h
/-- sorted of a list of ints, of fewer than 64 tuples of as many ints; of a dict with fewer than 64 text keys -/
def fSortedU : DL1 := fun xs st k => match xs with
  | [x] => (match lstOf st x with
    | some ys => (match intsOf ys with
      | some ns => ∀ ms : List Int, ms.Perm ns → ms.Pairwise (· ≤ ·) → dNew ((ms.map PyData.int).map Sl.d) st k
      | none => (match tupsOf ys with
        | some ns => ∃ (d : Nat) (B : Int), (1 ≤ d ∧ ns.length < 64 ∧ ∀ m ∈ ns, m.length = d ∧ TS.Bd B m) ∧ ∀ ms : List (List Int), ms.Perm ns → ms.Pairwise (fun a b => TS.code B a ≤ TS.code B b) → dNew (ms.map fun m => Sl.d (tupI m)) st k
        | none => False))
    | none => (match dictOf st x with
      | some es => (match strsOf es with
        | some ks => ks.length < 64 ∧ ∀ ys : List Str, ys.Perm ks → sortedS ys = true → dNew ((ys.map PyData.str).map Sl.d) st k
        | none => False)
      | none => False))
  | _ => False
def rSortedU (K : PySem.W.Frag) : List V → Hp → VK → Prop := fun xs H Q => rSortedI K xs H Q ∨ (∃ d B, 1 ≤ d ∧ rSortU K d B xs H Q) ∨ ∃ (a : Addr) (kvs : List (Key × V)) (ks : List Str), xs = [.ref a] ∧ Rd H a (.dK kvs) ∧ kvs.map (·.1) = ks.map Sum.inr ∧ ks.length < 64 ∧
    ∀ ys p, ys.Perm ks → sortedS ys = true → H p = none → Q (.ref p) (upd H p (.lst (ys.map V.str)))
theorem cr_sortedU {X : Cx} (hc : X.calm = true) : CallR X (.builtin "sorted") (rSortedU X.K) := by
  intro pins s σ H xs us Q I r h
  rcases h with h | ⟨d, B, hd, h⟩ | h
  · exact cr_sortedI pins s σ H xs us Q I r h
  · exact cr_sortT hd pins s σ H xs us Q I r h
  · exact call_sortedD hc pins s σ H xs us Q I r h
theorem sls_perm {K : PySem.W.Frag} {fr : Fz} {H : Hp} {α : Type} {f : α → Sl} {ws us : List V} (p : us.Perm ws) : ∀ {ms : List α}, SlsR K fr H ws (ms.map f) → ∃ ns : List α, ns.Perm ms ∧ SlsR K fr H us (ns.map f) := by
  induction p with
  | nil =>
    intro ms h
    exact ⟨ms, .refl _, h⟩
  | cons x _ ih =>
    intro ms h
    cases ms with
    | nil => cases h
    | cons m r =>
      cases h with
      | cons a b =>
        obtain ⟨ns, h1, h2⟩ := ih b
        exact ⟨m :: ns, h1.cons m, .cons a h2⟩
  | swap x y l =>
    intro ms h
    cases ms with
    | nil => cases h
    | cons m r =>
      cases h with
      | cons a b =>
        cases r with
        | nil => cases b
        | cons n r =>
          cases b with
          | cons b c => exact ⟨n :: m :: r, .swap m n r, .cons b (.cons a c)⟩
  | trans _ _ ih1 ih2 =>
    intro ms h
    obtain ⟨ns, h1, h2⟩ := ih2 h
    obtain ⟨os, h3, h4⟩ := ih1 h2
    exact ⟨os, h3.trans h1, h4⟩
theorem rp_ints {K : PySem.W.Frag} {fr : Fz} {H : Hp} : ∀ {ns : List Int} {vs : List V}, RpAll K fr H vs (ns.map PyData.int) → vs = ns.map V.int
  | [], _, .nil => rfl
  | _ :: _, _, .cons a b => by rw [List.map_cons, rp_int a, rp_ints b]
theorem tupI_at {K : PySem.W.Frag} {fr : Fz} {H : Hp} {v : V} {m : List Int} (r : SlR K fr H v (.d (tupI m))) : TupI K H v m := by
  obtain ⟨a, ws, rfl, h1, h2⟩ := rp_tupv (show Rp K fr H v (.tuple (m.map PyData.int)) from r)
  rw [rp_ints h2] at h1
  exact ⟨a, rfl, h1⟩
theorem sls_pw {K : PySem.W.Frag} {fr : Fz} {H : Hp} {B : Int} : ∀ {ms : List (List Int)} {vs : List V}, SlsR K fr H vs (ms.map fun m => Sl.d (tupI m)) → vs.Pairwise (fun x y => ∀ n m, TupI K H x n → TupI K H y m → TS.code B n ≤ TS.code B m) → ms.Pairwise (fun a b => TS.code B a ≤ TS.code B b)
  | [], _, _, _ => .nil
  | m :: r, _, .cons a b, h => by
    cases h with
    | cons h1 h2 =>
      refine .cons (fun n hn => ?_) (sls_pw b h2)
      obtain ⟨i, hi⟩ := List.mem_iff_getElem?.mp hn
      obtain ⟨v, hv, rv⟩ := b.get (i := i) (x := .d (tupI n)) (by rw [List.getElem?_map, hi]; rfl)
      exact h1 v (List.mem_of_getElem? hv) m n (tupI_at a) (tupI_at rv)
theorem sls_strs {K : PySem.W.Frag} {fr : Fz} {H : Hp} : ∀ ys : List Str, SlsR K fr H (ys.map V.str) ((ys.map PyData.str).map Sl.d)
  | [] => .nil
  | y :: r => .cons (.str y) (sls_strs r)
theorem rl_sortedU {K : PySem.W.Frag} : RLD K (rSortedU K) fSortedU := fun fr H st xs sxs k Q s rx h q => by
  unfold fSortedU at h
  split at h
  · obtain ⟨v, rfl, r⟩ := sls1 rx
    split at h
    · next ys hy =>
      obtain ⟨a, ws, rfl, h1, h2⟩ := lst_at s r hy
      split at h
      · next ns hn =>
        rw [intsOf_eq hn] at h2
        rw [sls_ints h2] at h1
        exact .inl ⟨a, ns, rfl, h1, fun ms p hp ho n => q.lst s (sls_of_ints ms) (h ms hp ho) n⟩
      · split at h
        · next ns hn =>
          obtain ⟨d, B, ⟨hd, h64, hm⟩, h⟩ := h
          rw [tupsOf_eq hn] at h2
          have hl : ws.length = ns.length := by rw [h2.length, List.length_map]
          refine .inr (.inl ⟨d, B, hd, a, ws, rfl, h1, by rw [hl]; exact h64, fun x hx => ?_, fun us p hp ho n => ?_⟩)
          · obtain ⟨i, hi⟩ := List.mem_iff_getElem?.mp hx
            have hil : i < ns.length := by rw [← hl]; exact (List.getElem?_eq_some_iff.mp hi).1
            obtain ⟨v, hv, rv⟩ := h2.get (i := i) (x := .d (tupI ns[i])) (by rw [List.getElem?_map, List.getElem?_eq_getElem hil]; rfl)
            rw [hi] at hv
            cases hv
            exact ⟨_, tupI_at rv, hm _ (List.getElem_mem hil)⟩
          · obtain ⟨ms, p1, p2⟩ := sls_perm hp h2
            exact q.lst s p2 (h ms p1 (sls_pw p2 ho)) n
        · exact h.elim
    · split at h
      · next es he =>
        split at h
        · next ks hk =>
          obtain ⟨a, ws, rfl, h1, h2⟩ := dct_at s r he
          exact .inr (.inr ⟨a, ws, ks, rfl, .inl h1, by rw [h2.keys]; exact strsOf_eq hk, h.1, fun ys p hp ho n => q.lst s (sls_strs ys) (h.2 ys hp ho) n⟩)
        · exact h.elim
      · exact h.elim
  · exact h.elim
/-! ### dict(d), d.get -/
def fDict : DL1 := fun xs st k => match xs with
  | [x] => (match dictOf st x with
    | some es => ∀ p, st p = none → k (.o p) (cset st p (.k es))
    | none => False)
  | _ => False
theorem rl_dict {K : PySem.W.Frag} : RLD K (fun xs H Q => ∃ (a : Addr) (kvs : List (Key × V)), xs = [.ref a] ∧ Rd H a (.dK kvs) ∧ ∀ p, H p = none → Q (.ref p) (upd H p (.dK kvs))) fDict := fun fr H st xs sxs k Q s rx h q => by
  unfold fDict at h
  split at h
  · obtain ⟨v, rfl, r⟩ := sls1 rx
    split at h
    · next es he =>
      obtain ⟨a, ws, rfl, h1, h2⟩ := dct_at s r he
      exact ⟨a, ws, rfl, .inl h1, fun p n => q (.o p) _ fr _ _ (h p (s.nost n)) (Ext.ownC n) (s.ownC n ⟨ws, upd_same, h2.ex s.ow (Ext.new n)⟩) rfl⟩
    · exact h.elim
  · exact h.elim
def isK (st : Store) (x : Sl) : Bool := (dictOf st x).isSome
def dGet2 (to ti tz : DTE) : DTE := fun ρ st k => to ρ st fun x st1 => isK st1 x = true ∧ ti ρ st1 fun y st2 => tz ρ st2 fun z st3 => match dGetS st3 x y with
  | some (some v) => k v st3
  | some none => k z st3
  | none => False
theorem d_get2 {X : Cx} {o e f : Expr} {to ti tz : DTE} {apos cpos : Pos} (hu : X.A.units + 1 < cLine) (ho : DE X o to) (hi : DE X e ti) (hz : DE X f tz) (m : M2 X o "get" apos e f cpos := by exact ⟨rfl, rfl, rfl, rfl⟩) :
    DE X (.Call (.Attribute o "get" apos) [e, f] [] cpos) (dGet2 to ti tz) := pe_imp (pe_dget2 hu ho hi hz m) fun σ H Q ⟨fr, ρ, st, k, w, h, q⟩ => by
  refine ⟨fr, ρ, st, _, w, h, fun x st1 fr1 H1 v k1 e1 s1 r1 => ?_⟩
  obtain ⟨hk, k1⟩ := k1
  unfold isK at hk
  cases hd : dictOf st1 x with
  | none =>
    rw [hd] at hk
    cases hk
  | some es =>
    obtain ⟨a, ws, rfl, h1, h2⟩ := dct_at s1 r1 hd
    refine ⟨a, rfl, .inl ⟨ws, .inl h1⟩, fr1, ρ, st1, _, w.on e1 s1, k1, fun y st2 fr2 H2 u k2 e2 s2 r2 => ⟨fr2, ρ, st2, _, (w.on e1 s1).on e2 s2, k2, fun z st3 fr3 H3 t k3 e3 s3 r3 => ?_⟩⟩
    have e13 := (e1.trans e2).trans e3
    have rx : SlR X.K fr3 H3 (.ref a) x := r1.ex s1.ow (e2.trans e3)
    have ry : SlR X.K fr3 H3 u y := r2.ex s2.ow e3
    split at k3
    · next v hv =>
      obtain ⟨b, o, eb, g, g1, _⟩ := dget_at s3 rx ry hv
      cases eb
      obtain ⟨r, rfl, rr⟩ := g1 v rfl
      exact ⟨_, g, q _ _ _ _ _ k3 e13 s3 rr⟩
    · next hv =>
      obtain ⟨b, o, eb, g, _, g2⟩ := dget_at s3 rx ry hv
      cases eb
      rw [g2 rfl] at g
      exact ⟨_, g, q _ _ _ _ _ k3 e13 s3 r3⟩
    · exact k3.elim
/-! ### xs.extend(ys) -/
def fExt : DM := fun p xs ys st k => match ys with
  | [y] => (match plOf st y with
    | some zs => xs.length + zs.length ≤ sizeLine ∧ k (.d .none) (sset st p (xs ++ zs))
    | none => False)
  | _ => False
theorem rm_ext {K : PySem.W.Frag} : RMD K rExtend fExt := fun fr H st p xs ys vs k Q s hp r h q => by
  unfold fExt at h
  split at h
  · obtain ⟨v, rfl, rv⟩ := sls1 r
    split at h
    · next zs hz =>
      obtain ⟨_, ws, hw, hr⟩ := s.own p _ hp
      obtain ⟨b, us, rfl, h1, h2⟩ := pl_at s rv hz
      exact ⟨p, b, ws, us, rfl, rfl, hw, h1, by rw [hr.length, h2.length]; exact h.1, q.setq s hp (hr.app h2) (x := .d .none) (show Rp K fr H .non .none from .non) h.2⟩
    · exact h.elim
  · exact h.elim
/-! ### xs.clear() -/
def fClr : DM := fun p xs ys st k => match ys with
  | [] => k (.d .none) (sset st p [])
  | _ => False
theorem rm_clr {K : PySem.W.Frag} : RMD K rClear fClr := fun fr H st p xs ys vs k Q s hp r h q => by
  unfold fClr at h
  split at h
  · cases r
    obtain ⟨_, ws, hw, hr⟩ := s.own p _ hp
    exact ⟨p, ws, rfl, rfl, hw, q.setq s hp .nil (x := .d .none) (show Rp K fr H .non .none from .non) h⟩
  · exact h.elim
end DL
namespace DL
open PySem PySem.Spec PyProof.Rows L2
/-! ### defs with defaults -/
section
variable {P : Program} {w : World} {K : PySem.W.Frag} {mg : Str → Option Value} {base : Heap}
theorem enter_d {CX : CXT} {x qual : Str} {params : Arguments} {body : List Stmt} {scope : Scope} {dvs : List V} {kws : List (Str × V)} {f : Addr} {fd : FuncData} {N ps : List Str} {lv : Nat} {sp : Sp} (F : FunD K x qual params body scope dvs kws f fd) (S : FnScope N ps scope) (len : ∀ vs H Q E, sp vs H Q E → vs.length = ps.length)
    {A : Around} {outer : List Env} {s : Shared} {H : Hp} {args : Args} {us : List Value} {vs : List V} {Q : VK} {E : XK} (hr : Room (lv + 1) A) (e0 : Env0 P w K mg base A outer s H) (hb : BindsTo s fd args (ps.zip us)) (r : Vals vs us) (hsp : sp vs H Q E)
    (hbody : ∀ cdv, ∃ t, PSs (cxOf CX P w K mg base N qual scope f cdv A outer s H E) body t ∧ t { nx := fun _ H' => Q .non H', rt := Q } (start N vs) H) :
    codeAny (model P w) A (.call (.ref f) args) (CR CX outer P w H s Q E) s := by
  obtain ⟨oc, od, dV, kV, doc, pm, an, cdv, ct, osl, rfl, lk, hcd, _, _⟩ := F.ex
  have sees : K.In s.heap := e0.mod.kin.keeps fun b o q => (e0.bs b o q).1
  have kinds : ∀ y ∈ ps.zip us, scope.names.lookup y.1 = some .local ∨ (scope.names.lookup y.1 = some .cell ∧ ((cellsFrom (s.heap.objs.size + 1) scope.names []).lookup y.1).isSome = true) := by
    rintro ⟨n, v⟩ hy
    exact (S.par n (List.of_mem_zip hy).1).imp id fun q => ⟨q, PySem.W.cellsFrom_some _ _ _ (.inl q)⟩
  have hl := len _ _ _ _ hsp
  refine codeAny_call_function hr.depth (sees _ _ lk) rfl S.co S.gen rfl (PySem.W.codeRec_of sees hcd) (hb _ _ _ _ (wpAny_newFunctionEnv_cells S.kind kinds fun env he s1 X1 => ?_))
  subst he
  have lim : s.heap.NoLimit := e0.mod.nolimit.keeps fun b o q => (e0.bs b o q).1
  refine ⟨lim.keeps X1.toInCall.keep, codeAny_func ?_⟩
  obtain ⟨t, ht, hq⟩ := hbody cdv
  have I := inv_start (CX := CX) (E := E) S hr.hd e0 hl r X1
  refine wpAny_mono (ht.run [] s1 _ H _ I hq) (fun fl s' hs => ?_) fun _ _ z => z
  match fl, hs with
  | .ret u, ⟨v, σ', H', J, rv, q⟩ => exact ⟨v, H', J.os, J.bare, J.base, J.hok, rv, q⟩
  | .next, ⟨σ', H', J, q⟩ => exact ⟨.non, H', J.os, J.bare, J.base, J.hok, rfl, q⟩
  | .brk, ⟨_, _, _, q⟩ => exact q.elim
  | .cont, ⟨_, _, _, q⟩ => exact q.elim
theorem okD {x qual : Str} {params : Arguments} {body : List Stmt} {scope : Scope} {dvs : List V} {kws : List (Str × V)} {f : Addr} {fd : FuncData} {N ps : List Str} {lv : Nat} {wp : DWP} {t : DTS} (F : FunD K x qual params body scope dvs kws f fd) (S : FnScope N ps scope) (len : ∀ xs s k ke, wp xs s k ke → xs.length = ps.length)
    (walk : ∀ (cdv : Value) (A : Around) (outer : List Env) (s : Shared) (H : Hp) (E : XK), Room lv (cxOf CX0 P w K mg base N qual scope f cdv A outer s H E).A → (cxOf CX0 P w K mg base N qual scope f cdv A outer s H E).A.guards = some [] →
      DSs (cxOf CX0 P w K mg base N qual scope f cdv A outer s H E).nox body t)
    (pure : ∀ xs s k ke, wp xs s k ke → t { nx := fun _ s' => k (.d .none) s', rt := k } (startD N xs) s) : FnG P w K mg base CX0 (lv + 1) f fd ps wp := by
  refine ⟨len, fun A outer s H args us vs Q E hr hg e0 hb r hsp => enter_d (sp := spD K wp) F S (fun vs H Q E q => spD_len len q) hr e0 hb r hsp fun cdv => ⟨_, (walk cdv A outer s H E (hr.deeper _) (guards_deeper _ hg)).nox, ?_⟩⟩
  obtain ⟨fr, s0, xs, k, ke, hs, hx, hw, q, _⟩ := hsp
  refine ⟨fr, startD N xs, s0, _, start_wd hs hx, pure xs s0 k ke hw, ?_, q, ?_, ?_⟩
  · exact fun ρ' st' fr' H' σ' a b c => q _ _ _ _ _ a b c.sto .non
  · exact fun _ _ _ _ _ a => a.elim
  · exact fun _ _ _ _ _ a => a.elim
end
section
variable {X : Cx} {lv : Nat} {f : Addr} {fd : FuncData} {ps : List Str} {wp : DWP} {x : Str} {p pos : Pos} {e : Expr} {es : List Expr} {t tk : DTA}
/-- f(..), the defaults behind -/
theorem d_callD {ds : List Sl} {dvs : List V} (F : FnG X.prog X.w X.K X.mg X.base CX0 lv f fd ps wp) (hr : Room lv X.A) (hg : X.A.guards = some []) (hm : X.mg x = some (.ref f)) (hk : PySem.W.keepIn X.K (.ref f) = true) (hb : ∃ dus, Vals dvs dus ∧ Binds X.K fd ps dus) (hs : ∀ fr H, SlsR X.K fr H dvs ds)
    (ha : DA X (e :: es) t) (hgl : Gl X x := by rfl) (hdb : (x == ("__debug__" : Str)) = false := by decide) (he : starEach (e :: es) X.env = (false, eval e X.env) :: starEach es X.env := by rfl) (hpl : (backTo pos (starEach es X.env)).any (·.1) = false := by rfl) :
    DE X (.Call (.Name x p) (e :: es) [] pos) (dCall wp ds (fun _ _ => False) t) := by
  obtain ⟨dus, h1, h2⟩ := hb
  exact d_call F hr hg hm hk h2 h1 hs ha hgl hdb he hpl
/-- f(.., k = v, ..): n values by place, the lacking ones' ds, then the keywords', put in the parameters' order by pl -/
def dCallM (wp : DWP) (n m : Nat) (ds : List Sl) (pl : List Nat) (ta tk : DTA) : DTE := fun ρ st k => ta ρ st fun xs st1 => tk ρ st1 fun zs st2 => xs.length = n ∧ zs.length = m ∧ wp (byPl pl (xs ++ (ds ++ zs))) st2 k (fun _ _ => False)
/-- what such a call binds -/
def MBinds (K : PySem.W.Frag) (fd : FuncData) (ps : List Str) (n : Nat) (dvs : List V) (ks : List Str) (pl : List Nat) : Prop := ∃ dus, Vals dvs dus ∧ ∀ (s : Shared) (us ws : List Value), K.In s.heap → us.length = n → ws.length = ks.length → BindsTo s fd ⟨us, ks.zip ws⟩ (ps.zip (byPl pl (us ++ (dus ++ ws))))
theorem d_callM {ds : List Sl} {dvs : List V} {ks : List Str} {kws : List Keyword} (n : Nat) (pl : List Nat) (F : FnG X.prog X.w X.K X.mg X.base CX0 lv f fd ps wp) (hr : Room lv X.A) (hg : X.A.guards = some []) (hm : X.mg x = some (.ref f)) (hk : PySem.W.keepIn X.K (.ref f) = true) (hb : MBinds X.K fd ps n dvs ks pl) (hs : ∀ fr H, SlsR X.K fr H dvs ds)
    (ha : DA X (e :: es) t) (hkw : DK X kws tk) (hall : (backToKw pos (keywordEach kws X.env)).all (·.1.isSome) = true := by rfl) (hks : (backToKw pos (keywordEach kws X.env)).filterMap (·.1) = ks := by rfl) (hgl : Gl X x := by rfl)
    (hdb : (x == ("__debug__" : Str)) = false := by decide) (he : starEach (e :: es) X.env = (false, eval e X.env) :: starEach es X.env := by rfl)
    (hpl : ((backTo pos (starEach (e :: es) X.env)).any (·.1) || (backToKw pos (keywordEach kws X.env)).any (·.1.isNone)) = false := by rfl) :
    DE X (.Call (.Name x p) (e :: es) kws pos) (dCallM wp n ks.length ds pl t tk) := by
  obtain ⟨dus, hd, hb⟩ := hb
  constructor
  intro pins s σ H Q I h
  obtain ⟨fr, ρ, st, k, w, h, q⟩ := h
  refine wpAny_Call_Name_kw (ld_glob I hgl hm ?_ hdb)
  refine PySem.W.callWith_KW (h₀ := X.base) I.ok.mod.kin hk hall (thn (ha.run pos pins s σ H (fun vs H1 => LA X.K tk σ H1 fun zs H2 => vs.length = n ∧ zs.length = ks.length ∧ spD X.K wp (byPl pl (vs ++ (dvs ++ zs))) H2 Q E0) I ⟨fr, ρ, st, _, w, h, fun xs st1 fr1 H1 vs k1 e1 s1 r1 => ?_⟩) fun us s1 z => ?_) hpl he
  · refine ⟨fr1, ρ, st1, _, w.on e1 s1, k1, fun zs st2 fr2 H2 us k2 e2 s2 r2 => ?_⟩
    exact ⟨r1.length.trans k2.1, r2.length.trans k2.2.1, fr2, st2, _, k, _, s2, sls_byPl ((r1.ex s1.ow e2).app ((hs fr2 H2).app r2)) pl, k2.2.2, q.at (e1.trans e2), qx_none⟩
  · obtain ⟨vs, H1, I1, r, z⟩ := z
    refine thn (hkw.run pos pins s1 σ H1 _ I1 z) fun ws s2 ⟨zs, H2, I2, rz, l1, l2, q2⟩ => ⟨I2.kIn, ?_⟩
    rw [hks]
    have rr : Vals (byPl pl (vs ++ (dvs ++ zs))) (byPl pl (us ++ (dus ++ ws))) := vals_byPl (r.append (hd.append rz)) pl
    exact call_g F hr hg pass0 I2 (fun _ => hb s2 us ws I2.kIn (r.length.symm.trans l1) (rz.length.symm.trans l2)) rr q2
end
section
variable {K : PySem.W.Frag} {x qual : Str} {params : Arguments} {body : List Stmt} {scope : Scope} {dvs : List V} {kws : List (Str × V)} {f : Addr} {fd : FuncData} {ps : List Str}
theorem FunD.of {st : Stmt} (F : Fun K x qual st f fd) : FunD K x qual (defArgs st) (defBody st) (defScope st) [] [] f fd := by
  obtain ⟨oc, od, kV, doc, pm, an, cdv, ct, osl, rfl, lk, hcd⟩ := F.ex
  exact ⟨⟨oc, od, .none, kV, doc, pm, an, cdv, ct, osl, rfl, lk, hcd, .inl ⟨rfl, rfl⟩, .inl rfl⟩, F.kp⟩
/-- all keyword-only parameters are given (or there are none) -/
theorem mb_all (F : FunD K x qual params body scope [] kws f fd) (n : Nat) (ks : List Str) (pl : List Nat)
    (h : ∀ (kV doc pm : Value) (an : Option Addr) (cdv ct : Value) (us ws : List Value), us.length = n → ws.length = ks.length → bindArgs (PySem.W.fnOf x qual params body scope .none kV doc pm an cdv ct) ⟨us, ks.zip ws⟩ = pure (ps.zip (byPl pl (us ++ ws)))) : MBinds K fd ps n [] ks pl := by
  obtain ⟨oc, od, dV, kV, doc, pm, an, cdv, ct, osl, rfl, lk, hcd, hD, hK⟩ := F.ex
  rcases hD with ⟨_, rfl⟩ | ⟨e, _⟩
  · exact ⟨[], .nil, fun s us ws X l1 l2 => .of_eq (h kV doc pm an cdv ct us ws l1 l2)⟩
  · exact absurd rfl e
/-- some keyword-only parameters lack -/
theorem mb_lack (F : FunD K x qual params body scope [] kws f fd) (n : Nat) (ks : List Str) (ms : List (Str × V)) (pl : List Nat) (hk : kws ≠ []) (hms : ∀ q ∈ ms, q ∈ kws)
    (h : ∀ (D : Addr) (doc pm : Value) (an : Option Addr) (cdv ct : Value) (us mv ws : List Value), us.length = n → mv.length = ms.length → ws.length = ks.length →
      KwChain D ((ms.map (·.1)).zip mv) (bindArgs (PySem.W.fnOf x qual params body scope .none (.ref D) doc pm an cdv ct) ⟨us, ks.zip ws⟩) (ps.zip (byPl pl (us ++ (mv ++ ws))))) : MBinds K fd ps n (ms.map (·.2)) ks pl := by
  obtain ⟨oc, od, dV, kV, doc, pm, an, cdv, ct, osl, rfl, lk, hcd, hD, hK⟩ := F.ex
  rcases hD with ⟨_, rfl⟩ | ⟨e, _⟩
  · rcases hK with e | ⟨D, rfl, hq⟩
    · exact absurd e hk
    · obtain ⟨mv, hl, rk, hks⟩ := kwd_vals (ms := ms) fun q hm => hq q (hms q hm)
      exact ⟨mv, rk, fun s us ws X l1 l2 => BindsTo.of_looks fun M => KwChain.looks X hks (h D doc pm an cdv ct us mv ws l1 hl l2)⟩
  · exact absurd rfl e
/-- a def's facts from what the head tells -/
theorem fd_mk {oc : Value} {od an : Option Addr} {osl : Array (Option Value)} {dV kV doc pm cdv ct : Value} (l : K.lookup f = some ⟨oc, od, .func (PySem.W.fnOf x qual params body scope dV kV doc pm an cdv ct), osl⟩)
    (c : PySem.W.codeIn K cdv qual = true) (k : PySem.W.keepIn K (.ref f) = true) (hd : DflV K dV dvs) (hk : KwdV K kV kws) : FunD K x qual params body scope dvs kws f (PySem.W.fnOf x qual params body scope dV kV doc pm an cdv ct) := ⟨⟨oc, od, dV, kV, doc, pm, an, cdv, ct, osl, rfl, l, c, hd, hk⟩, k⟩
end
end DL
namespace Law
open PySem PySem.Spec PyProof.Rows L2 DL
theorem seq_o {st : Store} {p : Addr} {xs : List Sl} : seqOf (sset st p xs) (.o p) = some xs := own_seq sset_same
theorem lst_o {st : Store} {p : Addr} {xs : List Sl} : lstOf (sset st p xs) (.o p) = some xs := own_lst sset_same
theorem pl_o {st : Store} {p : Addr} {xs : List Sl} : plOf (sset st p xs) (.o p) = some xs := by unfold plOf; dsimp only; rw [sset_same]
theorem seq_s {st : Store} {p : Addr} {xs : List Sl} (h : st p = some (.l xs)) : seqOf st (.o p) = some xs := own_seq h
theorem lst_s {st : Store} {p : Addr} {xs : List Sl} (h : st p = some (.l xs)) : lstOf st (.o p) = some xs := own_lst h
theorem pl_s {st : Store} {p : Addr} {xs : List Sl} (h : st p = some (.l xs)) : plOf st (.o p) = some xs := by unfold plOf; dsimp only; rw [h]
theorem has_o {st : Store} {p : Addr} {xs : List Sl} : sset st p xs p ≠ none := by
  rw [sset_same]
  simp
local macro_rules | `(tactic| walk_at "law w") => `(tactic| (conv => whnf))
local macro_rules | `(tactic| walk_at "law s") => `(tactic| ((first | rw [seq_o] | rw [lst_o] | rw [pl_o] | rw [sset_same] | rw [cset_same]); (conv => whnf)))
local macro_rules | `(tactic| walk_at "law x") => `(tactic| ((conv => whnf); (repeat walk_at "law s")))
theorem dget_i {st : Store} {p : Addr} {es : List (Key × Sl)} {i : Int} (h : st p = some (.k es)) : dGetS st (.o p) (.d (.int i)) = some (valS es (.inl i)) := by
  unfold dGetS dictOf DL.keyOf
  dsimp only
  rw [h]
theorem dget_t {st : Store} {p : Addr} {es : List (Key × Sl)} {x : Str} (h : st p = some (.k es)) : dGetS st (.o p) (.d (.str x)) = some (valS es (.inr x)) := by
  unfold dGetS dictOf DL.keyOf
  dsimp only
  rw [h]
theorem nolst_k {st : Store} {p : Addr} {es : List (Key × Sl)} (h : st p = some (.k es)) : lstOf st (.o p) = none := by
  unfold lstOf
  dsimp only
  rw [h]
theorem dict_k {st : Store} {p : Addr} {es : List (Key × Sl)} (h : st p = some (.k es)) : dictOf st (.o p) = some es := by
  unfold dictOf
  dsimp only
  rw [h]
theorem noseq_k {st : Store} {p : Addr} {es : List (Key × Sl)} (h : st p = some (.k es)) : seqOf st (.o p) = none := by
  unfold seqOf
  dsimp only
  rw [h]
theorem cm_l {i j : Int} (h : -(2 ^ 64) < i ∧ i < 2 ^ 64) : CMul i j ∨ CMulW i j := .inl (.inl h)
theorem cm_r {i j : Int} (h : -(2 ^ 64) < j ∧ j < 2 ^ 64) : CMul i j ∨ CMulW i j := .inl (.inr h)
theorem log2_small {j : Int} (h0 : 0 < j) (h1 : j < 2 ^ 60) : j.natAbs.log2 < 9000 := by
  have h : j.natAbs < 2 ^ 60 := by omega
  exact Nat.lt_of_lt_of_le (PySem.Flt.log2_lt_of (by decide) h) (by decide)
theorem divw {j : Int} (h0 : 0 < j) (h1 : j < 2 ^ 60) : CDivW i j := ⟨h0, log2_small h0 h1⟩
theorem atI_ints {ns : List Int} {i : Int} (h0 : 0 ≤ i) (h1 : i < ns.length) : ∃ n, atI ((ns.map PyData.int).map Sl.d) i = some (.d (.int n)) ∧ n ∈ ns := by
  obtain ⟨j, rfl⟩ : ∃ j : Nat, i = (j : Int) := ⟨i.toNat, by omega⟩
  have hj : j < ns.length := by omega
  refine ⟨ns[j], atI_nat ?_, List.getElem_mem hj⟩
  rw [List.getElem?_map, List.getElem?_map, List.getElem?_eq_getElem hj]
  rfl
theorem at0 {α : Type} {x : α} {xs : List α} : atI (x :: xs) 0 = some x := atI_nat (j := 0) rfl
theorem nodup_ne {α : Type} {l : List α} (h : l.Nodup) {i j : Nat} {x : α} (hi : l[i]? = some x) (hj : l[j]? = some x) : i = j := by
  obtain ⟨li, ei⟩ := List.getElem?_eq_some_iff.mp hi
  obtain ⟨lj, ej⟩ := List.getElem?_eq_some_iff.mp hj
  have hp := List.pairwise_iff_getElem.mp h
  rcases Nat.lt_trichotomy i j with z | z | z
  · exact absurd (ei.trans ej.symm) (hp i j li lj z)
  · exact z
  · exact absurd (ej.trans ei.symm) (hp j i lj li z)
theorem lay_ints : ∀ ns : List Int, PyData.canLayAll0 (ns.map PyData.int) = true
  | [] => rfl
  | n :: r => by
    rw [List.map_cons]
    simp [PyData.canLayAll0, PyData.canLay0, lay_ints r]
theorem dep_ints : ∀ ns : List Int, PyData.depthAll (ns.map PyData.int) = 0
  | [] => rfl
  | n :: r => by
    rw [List.map_cons]
    simp [PyData.depthAll, PyData.depth, dep_ints r]
theorem shaped_ints (ns : List Int) : SeqAt.shaped (.list (ns.map PyData.int)) = true := by
  simp [SeqAt.shaped, PyData.canLay0, PyData.depth, lay_ints, dep_ints]
theorem shaped_intsT (ns : List Int) : SeqAt.shaped (.tuple (ns.map PyData.int)) = true := by
  simp [SeqAt.shaped, PyData.canLay0, PyData.depth, lay_ints, dep_ints]
theorem eqv_nil (ns : List Int) : PyData.eqv (.list (ns.map PyData.int)) (.list []) = ns.isEmpty := by
  cases ns <;> simp [PyData.eqv, PyData.eqvAll]
/-- the pen's list: the cells, the place, what is left -/
def PenL (xs : List Sl) : Prop := ∃ (ns : List Int) (at' rest : Int), xs = [.d (.list (ns.map PyData.int)), .d (.int at'), .d (.int rest)] ∧ 0 ≤ at' ∧ 0 ≤ rest
/-- at p lies a pen -/
def Pen (p : Addr) (S : Store) : Prop := ∃ xs, S p = some (.l xs) ∧ PenL xs
/-- what stood, but for those of ps, stands as it is -/
def Fx (ps : List Addr) (S S' : Store) : Prop := ∀ a c, a ∉ ps → S a = some c → S' a = some c
theorem Fx.refl (ps : List Addr) (S : Store) : Fx ps S S := fun _ _ _ h => h
theorem Fx.trans {ps : List Addr} {S S' S'' : Store} (h : Fx ps S S') (g : Fx ps S' S'') : Fx ps S S'' := fun a c n e => g a c n (h a c n e)
theorem Fx.mono {ps qs : List Addr} {S S' : Store} (h : Fx ps S S') (i : ∀ a ∈ ps, a ∈ qs) : Fx qs S S' := fun a c n e => h a c (fun z => n (i a z)) e
theorem Fx.set {ps : List Addr} {S S' : Store} {p : Addr} {c : Cell} (h : Fx ps S S') (m : p ∈ ps) : Fx ps S (cset S' p c) := fun a d n e => by
  rw [cset_ne (fun z => n (by rw [z]; exact m))]
  exact h a d n e
theorem Fx.new {ps : List Addr} {S S' : Store} {p : Addr} {c : Cell} (h : Fx ps S S') (n : S p = none) : Fx ps S (cset S' p c) := fun a d m e => by
  rw [cset_ne (fun z => by rw [z, n] at e; cases e)]
  exact h a d m e
theorem Fx.new' {ps : List Addr} {S S' : Store} {p : Addr} {c : Cell} (h : Fx ps S S') (n : S' p = none) : Fx ps S (cset S' p c) := fun a d m e => by
  have e' := h a d m e
  rw [cset_ne (fun z => by rw [z, n] at e'; cases e')]
  exact e'
theorem Pen.set {p : Addr} {S : Store} {xs : List Sl} (h : PenL xs) : Pen p (sset S p xs) := ⟨xs, sset_same, h⟩
theorem Pen.fx {p : Addr} {ps : List Addr} {S S' : Store} (h : Pen p S) (f : Fx ps S S') (n : p ∉ ps) : Pen p S' := let ⟨xs, a, b⟩ := h; ⟨xs, f p _ n a, b⟩
theorem Pen.new {p q : Addr} {S : Store} {c : Cell} (h : Pen p S) (n : S q = none) : Pen p (cset S q c) := h.fx ((Fx.refl [] S).new n) (by simp)
theorem Pen.off {p q : Addr} {S : Store} {c : Cell} (h : Pen p S) (n : p ≠ q) : Pen p (cset S q c) := let ⟨xs, a, b⟩ := h; ⟨xs, (cset_ne n).trans a, b⟩
/-! ### curves -/
/-- a curve's worth in whole numbers -/
def pev (ns : List Int) (x : Int) : Int := ns.foldr (fun n a => a * x + n) 0
theorem pev_cons (n : Int) (r : List Int) (x : Int) : pev (n :: r) x = pev r x * x + n := rfl
theorem horner_mod (ns : List Int) (x q : Int) : ns.foldr (fun n a => (a * x + n) % q) (0 % q) = pev ns x % q := by
  induction ns with
  | nil => rfl
  | cons n r ih =>
    rw [List.foldr_cons, ih, pev_cons]
    rw [Int.add_emod, Int.mul_emod, Int.emod_emod, ← Int.mul_emod, ← Int.add_emod]
theorem get_ints {ns : List Int} {i : Nat} {x : Sl} (h : ((ns.map PyData.int).map Sl.d)[i]? = some x) : ∃ n, ns[i]? = some n ∧ x = .d (.int n) := by
  rw [List.getElem?_map, List.getElem?_map] at h
  cases e : ns[i]? with
  | none =>
    rw [e] at h
    cases h
  | some n =>
    rw [e] at h
    cases h
    exact ⟨n, rfl, rfl⟩
theorem len_ints (ns : List Int) : ((ns.map PyData.int).map Sl.d).length = ns.length := by rw [List.length_map, List.length_map]
/-! ### the nine primes -/
def nine : List Int := [5, 7, 11, 13, 17, 19, 23, 29, 31]
theorem nine_at {d : Int} (h0 : 0 ≤ d) (h1 : d < 9) : ∃ q, atI ((nine.map PyData.int).map Sl.d) d = some (.d (.int q)) ∧ q ∈ nine :=
  atI_ints (ns := nine) h0 h1
theorem nine_le {q : Int} (h : q ∈ nine) : 5 ≤ q ∧ q ≤ 31 := by
  simp only [nine, List.mem_cons, List.not_mem_nil, or_false] at h
  omega
/-! ### rows of numbers -/
def IntL (q : Int) (xs : List Sl) (ns : List Int) : Prop := xs = (ns.map PyData.int).map Sl.d ∧ ∀ n ∈ ns, 0 ≤ n ∧ n < q
theorem IntL.app {q : Int} {xs ys : List Sl} {ns ms : List Int} (a : IntL q xs ns) (b : IntL q ys ms) : IntL q (xs ++ ys) (ns ++ ms) := by
  obtain ⟨rfl, ha⟩ := a
  obtain ⟨rfl, hb⟩ := b
  refine ⟨by rw [List.map_append, List.map_append], fun n hn => ?_⟩
  rcases List.mem_append.mp hn with h | h
  · exact ha n h
  · exact hb n h
theorem IntL.cut {q : Int} {xs : List Sl} {ns : List Int} (a : IntL q xs ns) (lo hi : Option Int) : ∃ ms, IntL q (cutL xs lo hi) ms ∧ ms.length ≤ ns.length := by
  obtain ⟨rfl, ha⟩ := a
  unfold cutL
  refine ⟨(ns.drop (HT.sIx ((ns.map PyData.int).map Sl.d).length 0 lo)).take (HT.sIx ((ns.map PyData.int).map Sl.d).length ((ns.map PyData.int).map Sl.d).length hi - HT.sIx ((ns.map PyData.int).map Sl.d).length 0 lo), ⟨?_, fun n hn => ha n (List.mem_of_mem_drop (List.mem_of_mem_take hn))⟩, ?_⟩
  · rw [List.map_take, List.map_take, List.map_drop, List.map_drop]
  · rw [List.length_take, List.length_drop]
    omega
theorem six_nat (n d i : Nat) : HT.sIx n d (some (i : Int)) = min i n := HT.sIx_nat n d i
theorem cut_take (xs : List Sl) (i : Nat) : cutL xs none (some (i : Int)) = xs.take i := by
  unfold cutL
  rw [six_nat]
  show ((xs.drop 0).take _) = _
  rw [List.drop_zero]
  show xs.take (min i xs.length - 0) = _
  rw [Nat.sub_zero]
  rcases Nat.le_total i xs.length with h | h
  · rw [Nat.min_eq_left h]
  · rw [Nat.min_eq_right h, List.take_of_length_le (Nat.le_refl _), List.take_of_length_le h]
theorem cut_drop (xs : List Sl) (i : Nat) : cutL xs (some (i : Int)) none = xs.drop i := by
  unfold cutL
  rw [six_nat]
  show ((xs.drop (min i xs.length)).take (xs.length - min i xs.length)) = _
  rw [List.take_of_length_le (by rw [List.length_drop]; omega)]
  rcases Nat.le_total i xs.length with h | h
  · rw [Nat.min_eq_left h]
  · rw [Nat.min_eq_right h, List.drop_of_length_le (Nat.le_refl _), List.drop_of_length_le h]
theorem map2_take (ns : List Int) (i : Nat) : ((ns.map PyData.int).map Sl.d).take i = ((ns.take i).map PyData.int).map Sl.d := by rw [List.map_take, List.map_take]
theorem map2_drop (ns : List Int) (i : Nat) : ((ns.map PyData.int).map Sl.d).drop i = ((ns.drop i).map PyData.int).map Sl.d := by rw [List.map_drop, List.map_drop]
theorem IntL.rep {q : Int} (hq : 0 < q) (n : Nat) : IntL q (List.replicate n [Sl.d (.int 0)]).flatten (List.replicate n 0) := by
  refine ⟨?_, fun m hm => ?_⟩
  · induction n with
    | zero => rfl
    | succ n ih =>
      rw [List.replicate_succ, List.replicate_succ, List.flatten_cons, ih]
      rfl
  · rw [List.eq_of_mem_replicate hm]
    exact ⟨Int.le_refl 0, hq⟩
theorem log2_31 {n : Int} (h0 : 0 ≤ n) (h1 : n < 2 ^ 60) : n.natAbs.log2 < 1920 := by
  have h : n.natAbs < 2 ^ 60 := by omega
  exact Nat.lt_of_lt_of_le (PySem.Flt.log2_lt_of (by decide) h) (by decide)
theorem get_lists {ls : List (List Int)} {i : Nat} {x : Sl} (h : ((ls.map fun l => PyData.list (l.map PyData.int)).map Sl.d)[i]? = some x) : ∃ l, l ∈ ls ∧ x = .d (.list (l.map PyData.int)) := by
  rw [List.getElem?_map, List.getElem?_map] at h
  cases e : ls[i]? with
  | none =>
    rw [e] at h
    cases h
  | some l =>
    rw [e] at h
    cases h
    exact ⟨l, List.mem_of_getElem? e, rfl⟩
theorem sz_le {n : Nat} (h : n ≤ 10000) : n ≤ sizeLine := Nat.le_trans h (by decide)
theorem sz_lt {n : Nat} (h : n < 10000) : n < sizeLine := Nat.lt_of_lt_of_le h (by decide)
local macro_rules | `(tactic| walk_at "law h") => `(tactic| (walk_at "law x"; rw [hold_at]; walk_at "law x"))
local macro_rules | `(tactic| walk_at "law r") => `(tactic| (walk_at "law x"; (repeat walk_at "law h")))
local macro_rules | `(tactic| walk_at "law z") => `(tactic| (simp only [List.length_map, List.length_cons, List.length_append, List.length_nil, List.length_replicate, List.length_range, rngs_len, enD_len]; omega))
local macro_rules | `(tactic| walk_at "law c") => `(tactic| first | omega | (intro _ z; cases z; done) | with_reducible rfl | trivial | exact cm_l ⟨by omega, by omega⟩ | exact cm_r ⟨by omega, by omega⟩ | exact divw (by omega) (by omega) | walk_at "law z" | (refine sz_le ?_; walk_at "law z") | (refine sz_lt ?_; walk_at "law z") | exact Nat.le_of_ble_eq_true rfl | decide | rfl)
local macro_rules | `(tactic| walk_at "law g") => `(tactic| ((repeat (walk_at "law x"; refine And.intro (by walk_at "law c") ?_)); walk_at "law x"))
local macro_rules | `(tactic| walk_at "law a") => `(tactic| ((repeat (first | (walk_at "law x"; refine And.intro (by walk_at "law c") ?_) | walk_at "law h")); walk_at "law x"))
theorem range_mid {n : Nat} {d r : List Nat} {i : Nat} (h : List.range n = d ++ i :: r) : i < n ∧ d = List.range i ∧ d.length = i := by
  have hl : d.length < n := by
    have e := congrArg List.length h
    rw [List.length_range, List.length_append, List.length_cons] at e
    omega
  have e2 : i = d.length := by
    have e := congrArg (fun l : List Nat => l[d.length]?) h
    rw [List.getElem?_range hl, List.getElem?_append_right (Nat.le_refl _), Nat.sub_self] at e
    exact (Option.some.inj e).symm
  have e3 : d = List.range d.length := by
    have e := congrArg (List.take d.length) h
    rw [List.take_append_of_le_length (Nat.le_refl _), List.take_length, List.take_range, Nat.min_eq_left (Nat.le_of_lt hl)] at e
    exact e.symm
  exact ⟨by omega, by rw [e2]; exact e3, e2.symm⟩
theorem rngs_eq (lo : Int) (n : Nat) : rngs lo n = (List.range n).map fun i => Sl.d (.int (lo + (i : Nat))) := rfl
theorem eqv_self {d : PyData} (h : SeqAt.shaped d = true) : PyData.eqv d d = true := SeqAt.eqv_refl d (by
  unfold SeqAt.shaped at h
  exact (Bool.and_eq_true_iff.mp h).1)
theorem showable_ints {ns : List Int} (h : ∀ n ∈ ns, 0 ≤ n ∧ n < 10 ^ 12) : PyData.showableAll (ns.map PyData.int) = true := PyData.showableAll_ints ns fun n hn => log2_31 (h n hn).1 (by have := (h n hn).2; omega)
theorem leaves_ints : ∀ {ns : List Int}, (∀ n ∈ ns, 0 ≤ n ∧ n < 10 ^ 12) → PyData.leavesShortAll 13 (ns.map PyData.int) = true
  | [], _ => by simp [PyData.leavesShortAll]
  | n :: r, h => by
    have hn := h n (List.mem_cons_self ..)
    have := PyData.shown_int_le (i := n) (by omega)
    rw [List.map_cons]
    simp [PyData.leavesShortAll, PyData.leavesShort, this, leaves_ints fun m hm => h m (List.mem_cons_of_mem _ hm)]
theorem weight_ints : ∀ {ns : List Int}, (∀ n ∈ ns, 0 ≤ n ∧ n < 10 ^ 12) → PyData.weightAll (ns.map PyData.int) ≤ 50 * ns.length
  | [], _ => by simp [PyData.weightAll]
  | n :: r, h => by
    rw [List.map_cons]
    have ih := weight_ints (ns := r) fun m hm => h m (List.mem_cons_of_mem _ hm)
    have hn := h n (List.mem_cons_self ..)
    have hl : n.natAbs.log2 < 40 := by
      have : n.natAbs < 2 ^ 40 := by omega
      exact PySem.Flt.log2_lt_of (by decide) this
    simp only [PyData.weightAll, PyData.weight, List.length_cons]
    split <;> omega
theorem nd_ints (ns : List Int) : PyData.hasDictAll (ns.map PyData.int) = false := by
  induction ns with
  | nil => simp only [List.map_nil, PyData.hasDictAll]
  | cons n r ih => simp only [List.map_cons, PyData.hasDictAll, PyData.hasDict, ih, Bool.or_false]
theorem repT_ints {ns : List Int} (h : ∀ n ∈ ns, 0 ≤ n ∧ n < 10 ^ 12) (hl : ns.length ≤ 10000) : repOk (.tuple (ns.map PyData.int)) := by
  have hw := weight_ints h
  refine ⟨by simp [PyData.showable, showable_ints h], by simp [PyData.depth, dep_ints], PyData.shown_fits (B := 13) (by decide) (by decide) (by simp [PyData.leavesShort, leaves_ints h]) ?_, by simp only [PyData.hasDict]; exact nd_ints ns⟩
  simp only [PyData.weight]
  omega
theorem ints_snoc {T : List Int} {i : Nat} {v : Int} (h : T[i]? = some v) : ((T.take i).map PyData.int).map Sl.d ++ [.d (.int v)] = ((T.take (i + 1)).map PyData.int).map Sl.d := by
  rw [List.take_add_one, h, List.map_append, List.map_append]
  rfl
theorem flat_ints : ∀ ns : List Int, flatDs ((ns.map PyData.int).map Sl.d) = some (ns.map V.int)
  | [] => rfl
  | n :: r => by
    rw [List.map_cons, List.map_cons]
    unfold flatDs
    rw [flat_ints r]
    rfl
theorem inV_ints (x : Int) (ns : List Int) : inV (.int x) (ns.map V.int) = decide (x ∈ ns) := by
  unfold inV
  induction ns with
  | nil => rfl
  | cons n r ih =>
    rw [List.map_cons, List.any_cons, ih]
    by_cases e : n = x
    · subst e
      simp [eqV]
    · have e2 : ¬ x = n := fun z => e z.symm
      simp [eqV, e, e2]
theorem get_int {ns : List Int} {i : Nat} {d : PyData} (h : (ns.map PyData.int)[i]? = some d) : ∃ n, ns[i]? = some n ∧ d = .int n := by
  rw [List.getElem?_map] at h
  cases e : ns[i]? with
  | none =>
    rw [e] at h
    cases h
  | some n =>
    rw [e] at h
    cases h
    exact ⟨n, rfl, rfl⟩
/-- what stood in the store stands still -/
abbrev Kp (S S' : Store) : Prop := Fx [] S S'
theorem Kp.refl (S : Store) : Kp S S := Fx.refl _ _
theorem Kp.trans {S S' S'' : Store} (h : Kp S S') (g : Kp S' S'') : Kp S S'' := Fx.trans h g
theorem Kp.new {S S' : Store} {p : Addr} {c : Cell} (h : Kp S S') (n : S' p = none) : Kp S (cset S' p c) := Fx.new' h n
theorem Kp.set {S S' : Store} {p : Addr} {c : Cell} (h : Kp S S') (n : S p = none) : Kp S (cset S' p c) := Fx.new h n
theorem Kp.at {S S' : Store} (h : Kp S S') {a : Addr} {c : Cell} (e : S a = some c) : S' a = some c := h a c (by simp) e
theorem Kp.none {S S' : Store} {a : Addr} (h : Kp S S') (n : S' a = none) : S a = none := by
  cases e : S a with
  | none => rfl
  | some c => rw [h.at e] at n; cases n
theorem Kp.fx {ps : List Addr} {S S' : Store} (h : Kp S S') : Fx ps S S' := Fx.mono h (by simp)
theorem intsGet {ls : List Int} {j : Nat} {x : Int} (h : ls[j]? = some x) : ((ls.map PyData.int).map Sl.d)[j]? = some (.d (.int x)) := by
  rw [List.getElem?_map, List.getElem?_map, h]
  rfl
theorem intsOf_ints : ∀ ns : List Int, intsOf ((ns.map PyData.int).map Sl.d) = some ns
  | [] => rfl
  | n :: r => by
    rw [List.map_cons, List.map_cons]
    unfold intsOf
    rw [intsOf_ints r]

def wp_law_pen : DWP := wp1 fun a st k _ => ∃ ns : List Int, a = .r (ns.map PyData.int) ∧ ns.length ≤ 63 ∧ ∀ (p : Addr) S, Pen p S → Fx [] st S → k (.o p) S
def t_law_pen : DTS := (dRet (dLst (dCons (dCB fList (dCons (dSl (dVar 0) dNoP (dPt (dC (.int 63)))) dNil)) (dCons (dC (.int 0)) (dCons (dC (.int 0)) dNil)))))
theorem pure_law_pen : ∀ xs s k ke, wp_law_pen xs s k ke → t_law_pen { nx := fun _ s' => k (.d .none) s', rt := k } (startD ["_law_script"] xs) s := by
  intro xs st k ke h
  obtain ⟨a, rfl, ns, rfl, hl, h⟩ := wp1_of h
  have hc : cutL ((ns.map PyData.int).map Sl.d) none (some 63) = (ns.map PyData.int).map Sl.d := by
    refine cut_all ⟨rfl, ?_⟩
    have e : HT.sIx ((ns.map PyData.int).map Sl.d).length ((ns.map PyData.int).map Sl.d).length (some ((63 : Nat) : Int)) = min 63 ((ns.map PyData.int).map Sl.d).length := HT.sIx_nat _ _ 63
    rw [show (63 : Int) = ((63 : Nat) : Int) from rfl, e, List.length_map, List.length_map]
    omega
  walk_at "law x"
  refine .inl ⟨ns.map PyData.int, hc, ?_⟩
  walk_at "law x"
  refine .inl ⟨ns.map PyData.int, rfl, ?_⟩
  walk_at "law x"
  refine ⟨by walk_at "law c", .inr fun p n => ?_⟩
  exact h p _ (Pen.set ⟨ns, 0, 0, rfl, by decide, by decide⟩) ((Fx.refl _ _).new n)

def wp_law_fresh : DWP := wp1 fun a st k _ => ∃ (p : Addr) (ns : List Int) (at' rest : Int), a = .o p ∧ st p = some (.l [.d (.list (ns.map PyData.int)), .d (.int at'), .d (.int rest)]) ∧ 0 ≤ at' ∧
  ∀ n at2 : Int, 0 ≤ n → 0 ≤ at2 → k (.d (.int n)) (sset st p [.d (.list (ns.map PyData.int)), .d (.int at2), .d (.int rest)])
def r_law_fresh_0 : DTS := (dRet (dVar 5))
def b_law_fresh_0 : DTS := (dSeq (dAsg (dOp fMod (dOp fAdd (dOp fAdd (dOp fMul (dVar 4) (dVar 4)) (dOp fMul (dOp fMul (dC (.int 69621)) (dOp fAdd (dVar 6) (dC (.int 1)))) (dOp fAdd (dVar 1) (dC (.int 1))))) (dVar 2)) (dVar 3)) (gN 4))
  (dAsg (dOp fAdd (dOp fMul (dVar 5) (dVar 3)) (dVar 4)) (gN 5)))
theorem fl_law_fresh_0 {α : Type} {L : List α} {e : α → Sl} {D : DEnds} {xs : List Sl} {stay : Store → Prop} {st : Store} {v_pen_here v_at_here v_cell v_p v_one v_found v_turn : Option Sl} (hL : xs = L.map e) (I : List α → Option Sl → Option Sl → Store → Prop) (h0 : I [] v_one v_found st)
    (hs : ∀ d a r (v_one' v_found' v_turn' : Option Sl) S, L = d ++ a :: r → I d v_one' v_found' S → stay S ∧ (gN 6) (e a) [v_pen_here, v_at_here, v_cell, v_p, v_one', v_found', v_turn'] S fun ρ1 S1 => b_law_fresh_0 { D with nx := fun ρ' S' => ∃ v_one'' v_found'' v_turn'', ρ' = [v_pen_here, v_at_here, v_cell, v_p, v_one'', v_found'', v_turn''] ∧ I (d ++ [a]) v_one'' v_found'' S', ct := fun ρ' S' => ∃ v_one'' v_found'' v_turn'', ρ' = [v_pen_here, v_at_here, v_cell, v_p, v_one'', v_found'', v_turn''] ∧ I (d ++ [a]) v_one'' v_found'' S', bk := D.nx } ρ1 S1)
    (hd : ∀ (v_one' v_found' v_turn' : Option Sl) S, I L v_one' v_found' S → stay S ∧ D.nx [v_pen_here, v_at_here, v_cell, v_p, v_one', v_found', v_turn'] S) : ForGo (gN 6) b_law_fresh_0 D xs stay [v_pen_here, v_at_here, v_cell, v_p, v_one, v_found, v_turn] st :=
  ForGo.done L e hL (fun d ρ S => ∃ v_one' v_found' v_turn', ρ = [v_pen_here, v_at_here, v_cell, v_p, v_one', v_found', v_turn'] ∧ I d v_one' v_found' S) ⟨_, _, _, rfl, h0⟩ (fun d a r ρ S hL ⟨v_one', v_found', v_turn', eρ, hi⟩ => by subst eρ; exact hs d a r v_one' v_found' v_turn' S hL hi) fun ρ S ⟨v_one', v_found', v_turn', eρ, hi⟩ => by subst eρ; exact hd v_one' v_found' v_turn' S hi
def r_law_fresh_1 : DTS := (dSeq (dAsg (dC (.int 2305843009213693951)) (gN 3))
  (dSeq (dAsg (dOp fMod (dOp fAdd (dOp fAdd (dOp fMul (dVar 2) (dC (.int 48271))) (dOp fMul (dC (.int 40692)) (dVar 1))) (dC (.int 31))) (dVar 3)) (gN 4))
  (dSeq (dAsg (dVar 4) (gN 5))
  (dSeq (dFor (iRg1 (dCons (dC (.int 6)) dNil)) (gN 6) b_law_fresh_0)
  (hold r_law_fresh_0)))))
def r_law_fresh_2 : DTS := (dSeq (dIfS (dAnd (dB (dOp fLt (dVar 1) (dCB fLen (dCons (dOp fIx (dVar 0) (dC (.int 0))) dNil)))) (dB (dOp fGe (dVar 2) (dOp fPow (dC (.int 10)) (dC (.int 18)))))) (dRet (dOp fSub (dVar 2) (dOp fPow (dC (.int 10)) (dC (.int 18))))) dNext)
  (hold r_law_fresh_1))
def t_law_fresh : DTS := (dSeq (dAsg (dOp fIx (dVar 0) (dC (.int 1))) (gN 1))
  (dSeq (dAsg (dOp fAdd (dVar 1) (dC (.int 1))) (gSb2 (dVar 0) (dC (.int 1))))
  (dSeq (dAsg (dC (.int 0)) (gN 2))
  (dSeq (dIfS (dB (dOp (fEq true) (dOp fIx (dVar 0) (dC (.int 0))) (dLst dNil))) (dAsg (dOp fIx (dOp fIx (dVar 0) (dC (.int 0))) (dOp fMod (dVar 1) (dCB fLen (dCons (dOp fIx (dVar 0) (dC (.int 0))) dNil)))) (gN 2)) dNext)
  (hold r_law_fresh_2)))))
theorem b_mix (x : Int) : 0 ≤ x % 2305843009213693951 ∧ x % 2305843009213693951 < 2305843009213693951 := ⟨Int.emod_nonneg _ (by decide), Int.emod_lt_of_pos _ (by decide)⟩
theorem pure_law_fresh : ∀ xs s k ke, wp_law_fresh xs s k ke → t_law_fresh { nx := fun _ s' => k (.d .none) s', rt := k } (startD ["_law_pen_here", "_law_at_here", "_law_cell", "_law_p", "_law_one", "_law_found", "_law_turn"] xs) s := by
  intro xs st k ke h
  obtain ⟨a, rfl, p, ns, at', rest, rfl, hp, h0, h⟩ := wp1_of h
  obtain ⟨st0, rfl⟩ : ∃ st0, st = sset st0 p [.d (.list (ns.map PyData.int)), .d (.int at'), .d (.int rest)] := ⟨st, (sset_self hp).symm⟩
  simp only [sset_sset] at h
  have mixed : ∀ cell : Int, hold r_law_fresh_1 { nx := fun _ s' => k (.d .none) s', rt := k } [some (.o p), some (.d (.int at')), some (.d (.int cell)), none, none, none, none] (sset st0 p [.d (.list (ns.map PyData.int)), .d (.int (at' + 1)), .d (.int rest)]) := by
    intro cell
    walk_at "law h"
    refine ⟨cm_r (by decide), ?_⟩
    walk_at "law x"
    refine ⟨cm_l (by decide), ?_⟩
    walk_at "law g"
    refine fl_law_fresh_0 (L := List.range 6) rfl (fun d m1 m2 S => S = sset st0 p [.d (.list (ns.map PyData.int)), .d (.int (at' + 1)), .d (.int rest)] ∧ ∃ one found : Int, m1 = some (.d (.int one)) ∧ m2 = some (.d (.int found)) ∧ (0 ≤ one ∧ one < 2305843009213693951) ∧ 0 ≤ found) ⟨rfl, _, _, rfl, rfl, b_mix _, (b_mix _).1⟩ ?_ ?_
    · rintro d i r m1 m2 m3 S hd ⟨rfl, one, found, rfl, rfl, b1, f0⟩
      have hi := (range_mid hd).1
      refine ⟨trivial, ?_⟩
      walk_at "law g"
      have b2 := (b_mix (one * one + 69621 * ((0 : Int) + (i : Nat) + 1) * (at' + 1) + cell)).1
      exact ⟨_, _, _, rfl, rfl, _, _, rfl, rfl, b_mix _, Int.add_nonneg (Int.mul_nonneg f0 (by decide)) b2⟩
    · rintro m1 m2 m3 S ⟨rfl, one, found, rfl, rfl, b1, f0⟩
      refine ⟨trivial, ?_⟩
      walk_at "law h"
      exact h _ _ f0 (by omega)
  have rest1 : ∀ cell : Int, hold r_law_fresh_2 { nx := fun _ s' => k (.d .none) s', rt := k } [some (.o p), some (.d (.int at')), some (.d (.int cell)), none, none, none, none] (sset st0 p [.d (.list (ns.map PyData.int)), .d (.int (at' + 1)), .d (.int rest)]) := by
    intro cell
    walk_at "law h"
    cases c1 : decide (at' < ((ns.map PyData.int).map Sl.d).length) with
    | false => exact mixed cell
    | true =>
      walk_at "law x"
      refine ⟨⟨by decide, by decide, by decide⟩, ?_⟩
      walk_at "law x"
      cases c2 : decide ((10 : Int) ^ Int.toNat 18 ≤ cell) with
      | false => exact mixed cell
      | true =>
        walk_at "law x"
        refine ⟨⟨by decide, by decide, by decide⟩, ?_⟩
        have c3 := of_decide_eq_true c2
        exact h _ _ (by omega) (by omega)
  walk_at "law x"
  refine ⟨by decide, .inl ⟨[], rfl, ?_⟩⟩
  walk_at "law x"
  refine ⟨⟨shaped_ints ns, rfl⟩, ?_⟩
  simp only [sset_sset]
  walk_at "law x"
  rw [eqv_nil]
  cases hns : ns with
  | nil =>
    subst hns
    exact rest1 _
  | cons n r =>
    have he : ns.isEmpty = false := by rw [hns]; rfl
    rw [← hns, he]
    have hl : 0 < ns.length := by rw [hns]; exact Nat.succ_pos _
    walk_at "law x"
    have hl2 : ((ns.map PyData.int).map Sl.d).length = ns.length := by rw [List.length_map, List.length_map]
    rw [hl2]
    refine ⟨by omega, ?_⟩
    walk_at "law x"
    obtain ⟨m, hm, _⟩ := atI_ints (ns := ns) (Int.emod_nonneg at' (by omega : (ns.length : Int) ≠ 0)) (Int.emod_lt_of_pos at' (by omega))
    rw [hm]
    exact rest1 _

def wp_law_draw : DWP := wp2 fun a b st k _ => ∃ (p : Addr) (many : Int), a = .o p ∧ b = .d (.int many) ∧ Pen p st ∧ 0 < many ∧ many < 10 ^ 61 ∧
  ∀ (d : Int) S, 0 ≤ d → d < many → Pen p S → Fx [p] st S → k (.d (.int d)) S
theorem divbig {i j : Int} (h0 : 0 < j) (h1 : j < 10 ^ 61) : CDivW i j := ⟨h0, by
  have h : j.natAbs < 2 ^ 210 := by
    have e : (10 : Int) ^ 61 < 2 ^ 210 := by decide
    omega
  exact Nat.lt_of_lt_of_le (PySem.Flt.log2_lt_of (by decide) h) (by decide)⟩
def r_law_draw_0 : DTS := (dSeq (dAsg (dOp fMod (dOp fIx (dVar 0) (dC (.int 2))) (dVar 1)) (gN 2))
  (dSeq (dAsg (dOp fDiv (dOp fIx (dVar 0) (dC (.int 2))) (dVar 1)) (gSb2 (dVar 0) (dC (.int 2))))
  (dRet (dVar 2))))
def t_law_draw : DTS := (dSeq (dIfS (dB (dOp fLt (dOp fIx (dVar 0) (dC (.int 2))) (dVar 1))) (dAsg (dCall wp_law_fresh [] (fun _ _ => False) (dCons (dVar 0) dNil)) (gSb2 (dVar 0) (dC (.int 2)))) dNext)
  (hold r_law_draw_0))
theorem pure_law_draw : ∀ xs s k ke, wp_law_draw xs s k ke → t_law_draw { nx := fun _ s' => k (.d .none) s', rt := k } (startD ["_law_pen_here", "_law_many", "_law_digit"] xs) s := by
  intro xs st k ke h
  obtain ⟨a, b, rfl, p, many, rfl, rfl, ⟨ys, hp, hl⟩, hm, hm2, h⟩ := wp2_of h
  obtain ⟨ns, at', rest, rfl, h0, h1⟩ := hl
  obtain ⟨st0, rfl⟩ : ∃ st0, st = sset st0 p [.d (.list (ns.map PyData.int)), .d (.int at'), .d (.int rest)] := ⟨st, (sset_self hp).symm⟩
  have tail : ∀ (at2 r2 : Int), 0 ≤ at2 → 0 ≤ r2 → hold r_law_draw_0 { nx := fun _ s' => k (.d .none) s', rt := k } [some (.o p), some (.d (.int many)), none] (sset st0 p [.d (.list (ns.map PyData.int)), .d (.int at2), .d (.int r2)]) := fun at2 r2 g0 g1 => by
    walk_at "law h"
    walk_at "law g"
    refine ⟨divbig hm hm2, ?_⟩
    walk_at "law x"
    simp only [sset_sset]
    refine h _ _ (Int.emod_nonneg _ (Int.ne_of_gt hm)) (Int.emod_lt_of_pos _ hm) (Pen.set ⟨ns, at2, r2 / many, rfl, g0, Int.ediv_nonneg g1 (Int.le_of_lt hm)⟩) (fun a c n e => ?_)
    have n' : a ≠ p := fun z => n (by rw [z]; simp)
    rw [sset_ne n'] at e ⊢
    exact e
  walk_at "law x"
  cases c : decide (rest < many) with
  | false => exact tail _ _ h0 h1
  | true =>
    walk_at "law x"
    refine ⟨p, ns, at', rest, rfl, sset_same, h0, fun n at2 n0 a0 => ?_⟩
    simp only [sset_sset]
    walk_at "law x"
    simp only [sset_sset]
    exact tail _ _ a0 n0

/-! ### whole numbers by one of the nine primes -/
abbrev Cg (q a b : Int) : Prop := q ∣ a - b
theorem Cg.refl (q a : Int) : Cg q a a := by
  unfold Cg
  rw [Int.sub_self]
  exact Int.dvd_zero q
theorem Cg.symm {q a b : Int} (h : Cg q a b) : Cg q b a := by
  obtain ⟨k, e⟩ := h
  exact ⟨-k, by grind⟩
theorem Cg.trans {q a b c : Int} (h : Cg q a b) (g : Cg q b c) : Cg q a c := by
  obtain ⟨k, e⟩ := h
  obtain ⟨l, f⟩ := g
  exact ⟨k + l, by grind⟩
theorem Cg.add {q a b c d : Int} (h : Cg q a b) (g : Cg q c d) : Cg q (a + c) (b + d) := by
  obtain ⟨k, e⟩ := h
  obtain ⟨l, f⟩ := g
  exact ⟨k + l, by grind⟩
theorem Cg.sub {q a b c d : Int} (h : Cg q a b) (g : Cg q c d) : Cg q (a - c) (b - d) := by
  obtain ⟨k, e⟩ := h
  obtain ⟨l, f⟩ := g
  exact ⟨k - l, by grind⟩
theorem Cg.mul {q a b c d : Int} (h : Cg q a b) (g : Cg q c d) : Cg q (a * c) (b * d) := by
  obtain ⟨k, e⟩ := h
  obtain ⟨l, f⟩ := g
  exact ⟨k * c + b * l, by grind⟩
theorem Cg.mod (q a : Int) : Cg q (a % q) a := ⟨-(a / q), by
  have := Int.emod_add_mul_ediv a q
  grind⟩
theorem Cg.iff {q a b : Int} : Cg q a b ↔ a % q = b % q := (Int.emod_eq_emod_iff_emod_sub_eq_zero.trans Int.dvd_iff_emod_eq_zero.symm).symm
theorem Cg.eq {q a b : Int} (h : Cg q a b) (a0 : 0 ≤ a) (a1 : a < q) (b0 : 0 ≤ b) (b1 : b < q) : a = b := by
  have := Cg.iff.mp h
  rwa [Int.emod_eq_of_lt a0 a1, Int.emod_eq_of_lt b0 b1] at this
theorem cg_zero {q a : Int} : Cg q a 0 ↔ a % q = 0 := by
  rw [Cg.iff, Int.zero_emod]
/-- each number but 0 has its turned number -/
theorem nine_inv0 : ∀ q ∈ [5, 7, 11, 13, 17, 19, 23, 29, 31], ∀ a ∈ List.range q, a = 0 ∨ ∃ b ∈ List.range q, (a * b) % q = 1 := by decide +kernel
theorem nine_inv {q a : Int} (hq : q ∈ nine) (h0 : 0 < a) (h1 : a < q) : ∃ b, 0 < b ∧ b < q ∧ a * b % q = 1 := by
  have h5 := nine_le hq
  have hn : q.toNat ∈ [5, 7, 11, 13, 17, 19, 23, 29, 31] := by
    simp only [nine, List.mem_cons, List.not_mem_nil, or_false] at hq ⊢
    omega
  rcases nine_inv0 q.toNat hn a.toNat (List.mem_range.mpr (by omega)) with h | ⟨b, hb, h⟩
  · omega
  · have hb' := List.mem_range.mp hb
    have e : a * (b : Int) % q = 1 := by
      have ea : ((a.toNat : Nat) : Int) = a := Int.toNat_of_nonneg (by omega)
      have eq : ((q.toNat : Nat) : Int) = q := Int.toNat_of_nonneg (by omega)
      rw [← ea, ← eq]
      exact_mod_cast h
    refine ⟨b, ?_, by omega, e⟩
    have : b ≠ 0 := fun z => by
      subst z
      simp at e
    omega
theorem cg_inv {q a : Int} (hq : q ∈ nine) (h : ¬ Cg q a 0) : ∃ b, Cg q (a * b) 1 := by
  have h5 := nine_le hq
  have h1 : 0 ≤ a % q := Int.emod_nonneg _ (by omega)
  have h2 : a % q < q := Int.emod_lt_of_pos _ (by omega)
  have h3 : a % q ≠ 0 := fun z => h (cg_zero.mpr z)
  obtain ⟨b, _, _, e⟩ := nine_inv hq (a := a % q) (by omega) h2
  refine ⟨b, (Cg.mul (Cg.mod q a).symm (Cg.refl q b)).trans (Cg.iff.mpr ?_)⟩
  rw [e]
  exact (Int.emod_eq_of_lt (by decide) (by omega)).symm
theorem cg_cancel {q a b c : Int} (hq : q ∈ nine) (hc : ¬ Cg q c 0) (h : Cg q (a * c) (b * c)) : Cg q a b := by
  obtain ⟨d, hd⟩ := cg_inv hq hc
  have e1 : Cg q (a * c * d) a := by
    have := (Cg.refl q a).mul hd
    rw [Int.mul_one, ← Int.mul_assoc] at this
    exact this
  have e2 : Cg q (b * c * d) b := by
    have := (Cg.refl q b).mul hd
    rw [Int.mul_one, ← Int.mul_assoc] at this
    exact this
  exact e1.symm.trans ((h.mul (Cg.refl q d)).trans e2)
theorem cg_mul_ne {q a b : Int} (hq : q ∈ nine) (ha : ¬ Cg q a 0) (hb : ¬ Cg q b 0) : ¬ Cg q (a * b) 0 := fun h => ha (cg_cancel hq hb (by rw [Int.zero_mul]; exact h))
theorem cg_ne {q a b : Int} (a0 : 0 ≤ a) (a1 : a < q) (b0 : 0 ≤ b) (b1 : b < q) (h : a ≠ b) : ¬ Cg q (a - b) 0 := fun z => h (Cg.eq (by
  unfold Cg at z ⊢
  rwa [Int.sub_zero] at z) a0 a1 b0 b1)
/-! ### curves by a prime -/
/-- D of n :: r by a: what is left when the worth at a is put out -/
def dvt (a : Int) : List Int → List Int
  | [] => []
  | m :: r => pev (m :: r) a :: dvt a r
theorem dvt_len (a : Int) : ∀ r, (dvt a r).length = r.length
  | [] => rfl
  | _ :: r => congrArg (· + 1) (dvt_len a r)
theorem dvt_pev (a x : Int) : ∀ (n : Int) (r : List Int), pev (n :: r) x - pev (n :: r) a = (x - a) * pev (dvt a r) x
  | n, [] => by
    simp [pev, dvt]
  | n, m :: r => by
    have ih := dvt_pev a x m r
    rw [pev_cons n (m :: r) x, pev_cons n (m :: r) a, dvt, pev_cons (pev (m :: r) a) (dvt a r) x]
    generalize pev (m :: r) x = A at ih ⊢
    generalize pev (m :: r) a = B at ih ⊢
    generalize pev (dvt a r) x = C at ih ⊢
    have e : A = B + (x - a) * C := by omega
    rw [e]
    grind
theorem dvt_zero {q a : Int} : ∀ {r : List Int}, (∀ c ∈ dvt a r, Cg q c 0) → ∀ c ∈ r, Cg q c 0
  | [], _, _, h => by cases h
  | m :: r, h, c, hc => by
    have hr := dvt_zero (r := r) fun c hc => h c (List.mem_cons_of_mem _ hc)
    rcases List.mem_cons.mp hc with rfl | hc
    · have h1 : Cg q (pev (c :: r) a) 0 := h _ (List.mem_cons_self ..)
      have h2 : Cg q (pev r a) 0 := by
        cases r with
        | nil => exact Cg.refl q 0
        | cons m' r' => exact h _ (List.mem_cons_of_mem _ (List.mem_cons_self ..))
      rw [pev_cons] at h1
      have h3 := h1.sub (h2.mul (Cg.refl q a))
      have e : pev r a * a + c - pev r a * a = c := by grind
      rw [e, Int.zero_mul] at h3
      exact h3
    · exact hr c hc
def Uneq (q : Int) (xs : List Int) : Prop := xs.Pairwise fun x y => ¬ Cg q (x - y) 0
/-- a curve that comes to 0 at as many places as it has numbers is nought -/
theorem roots {q : Int} (hq : q ∈ nine) : ∀ (xs p : List Int), p.length ≤ xs.length → Uneq q xs → (∀ x ∈ xs, Cg q (pev p x) 0) → ∀ c ∈ p, Cg q c 0
  | [], p, hl, _, _, c, hc => by
    have : p = [] := List.length_eq_zero_iff.mp (by simpa using hl)
    subst this
    cases hc
  | a :: xs, [], _, _, _, c, hc => by cases hc
  | a :: xs, n :: r, hl, hu, h0, c, hc => by
    have hu' := List.pairwise_cons.mp hu
    have ha : Cg q (pev (n :: r) a) 0 := h0 a (List.mem_cons_self ..)
    have hd : ∀ x ∈ xs, Cg q (pev (dvt a r) x) 0 := fun x hx => by
      have hx0 := h0 x (List.mem_cons_of_mem _ hx)
      have e := dvt_pev a x n r
      have hz : Cg q ((x - a) * pev (dvt a r) x) 0 := by
        rw [← e]
        have := hx0.sub ha
        rwa [Int.sub_zero] at this
      have hne : ¬ Cg q (x - a) 0 := fun z => hu'.1 x hx (by
        have := (Cg.refl q 0).sub z
        have e2 : (0 : Int) - (x - a) = a - x := by omega
        rw [e2, Int.sub_zero] at this
        exact this)
      refine cg_cancel hq hne ?_
      rw [Int.zero_mul, Int.mul_comm]
      exact hz
    have hD := roots hq xs (dvt a r) (by rw [dvt_len]; simpa using hl) hu'.2 hd
    have hr := dvt_zero hD
    rcases List.mem_cons.mp hc with rfl | hc
    · have h2 : Cg q (pev r a) 0 := by
        cases r with
        | nil => exact Cg.refl q 0
        | cons m r' => exact hD _ (List.mem_cons_self ..)
      rw [pev_cons] at ha
      have h3 := ha.sub (h2.mul (Cg.refl q a))
      have e : pev r a * a + c - pev r a * a = c := by grind
      rw [e, Int.zero_mul] at h3
      exact h3
    · exact hr c hc
def subL : List Int → List Int → List Int
  | [], [] => []
  | a :: p, [] => a :: p
  | [], b :: r => -b :: subL [] r
  | a :: p, b :: r => (a - b) :: subL p r
theorem subL_pev (x : Int) : ∀ p r : List Int, pev (subL p r) x = pev p x - pev r x
  | [], [] => by simp [subL, pev]
  | a :: p, [] => by simp [subL, pev]
  | [], b :: r => by
    have := subL_pev x [] r
    rw [subL, pev_cons, pev_cons, this]
    simp [pev]
    grind
  | a :: p, b :: r => by
    have := subL_pev x p r
    rw [subL, pev_cons, pev_cons, pev_cons, this]
    grind
theorem subL_len : ∀ p r : List Int, (subL p r).length = max p.length r.length
  | [], [] => rfl
  | a :: p, [] => by simp [subL]
  | [], b :: r => by
    have := subL_len [] r
    simp [subL, this]
  | a :: p, b :: r => by
    have := subL_len p r
    simp only [subL, List.length_cons, this]
    omega
theorem subL_zero {q : Int} : ∀ {p r : List Int}, p.length = r.length → (∀ c ∈ p, 0 ≤ c ∧ c < q) → (∀ c ∈ r, 0 ≤ c ∧ c < q) → (∀ c ∈ subL p r, Cg q c 0) → p = r
  | [], [], _, _, _, _ => rfl
  | a :: p, [], h, _, _, _ => by simp at h
  | [], b :: r, h, _, _, _ => by simp at h
  | a :: p, b :: r, h, hp, hr, h0 => by
    have ha := hp a (List.mem_cons_self ..)
    have hb := hr b (List.mem_cons_self ..)
    have h1 : Cg q (a - b) 0 := h0 _ (List.mem_cons_self ..)
    have e : a = b := Cg.eq (by
      unfold Cg at h1 ⊢
      rwa [Int.sub_zero] at h1) ha.1 ha.2 hb.1 hb.2
    rw [e, subL_zero (by simpa using h) (fun c hc => hp c (List.mem_cons_of_mem _ hc)) (fun c hc => hr c (List.mem_cons_of_mem _ hc)) fun c hc => h0 c (List.mem_cons_of_mem _ hc)]
/-- two curves of as many numbers, alike at as many unlike places, are one -/
theorem curves_eq {q : Int} (hq : q ∈ nine) {xs p r : List Int} (hu : Uneq q xs) (hl : p.length = r.length) (hx : p.length ≤ xs.length) (hp : ∀ c ∈ p, 0 ≤ c ∧ c < q) (hr : ∀ c ∈ r, 0 ≤ c ∧ c < q)
    (h : ∀ x ∈ xs, Cg q (pev p x) (pev r x)) : p = r := by
  refine subL_zero hl hp hr (roots hq xs (subL p r) (by rw [subL_len]; omega) hu fun x hx => ?_)
  rw [subL_pev]
  have := (h x hx).sub (Cg.refl q (pev r x))
  rwa [Int.sub_self] at this
/-- two curves alike at as many unlike places as the longer one has numbers have the same worths -/
theorem curves_cg {q : Int} (hq : q ∈ nine) {xs p r : List Int} (hu : Uneq q xs) (hp : p.length ≤ xs.length) (hr : r.length ≤ xs.length) (h : ∀ x ∈ xs, Cg q (pev p x) (pev r x)) (y : Int) : Cg q (pev p y) (pev r y) := by
  have h0 := roots hq xs (subL p r) (by rw [subL_len]; omega) hu fun x hx => by
    rw [subL_pev]
    have := (h x hx).sub (Cg.refl q (pev r x))
    rwa [Int.sub_self] at this
  have key : ∀ l : List Int, (∀ c ∈ l, Cg q c 0) → Cg q (pev l y) 0 := by
    intro l
    induction l with
    | nil => intro _; exact Cg.refl q 0
    | cons n s ih =>
      intro hl
      rw [pev_cons]
      have := ((ih fun c hc => hl c (List.mem_cons_of_mem _ hc)).mul (Cg.refl q y)).add (hl n (List.mem_cons_self ..))
      rwa [Int.zero_mul, Int.zero_add] at this
  have := key _ h0
  rw [subL_pev] at this
  unfold Cg at this ⊢
  rwa [Int.sub_zero] at this
theorem pev_at0 (l : List Int) : pev l 0 = l.getD 0 0 := by
  cases l with
  | nil => rfl
  | cons a r =>
    rw [pev_cons, Int.mul_zero, Int.zero_add]
    rfl

/-- the product of the gaps from x to all others -/
def gapP (x : Int) (ns : List Int) : Int := ns.foldl (fun a n => a * (x - n)) 1
theorem gap_app (x : Int) (ns : List Int) (n : Int) : gapP x (ns ++ [n]) = gapP x ns * (x - n) := by
  unfold gapP
  rw [List.foldl_append]
  rfl
def offAt (ns : List Int) (i : Nat) : List Int := ns.take i ++ ns.drop (i + 1)
theorem gap_ne {q x : Int} (hq : q ∈ nine) : ∀ ns : List Int, (∀ n ∈ ns, ¬ Cg q (x - n) 0) → ¬ Cg q (gapP x ns) 0 := by
  intro ns
  suffices key : ∀ (ns : List Int) (a : Int), ¬ Cg q a 0 → (∀ n ∈ ns, ¬ Cg q (x - n) 0) → ¬ Cg q (ns.foldl (fun a n => a * (x - n)) a) 0 by
    refine key ns 1 fun h => ?_
    have h5 := nine_le hq
    have := cg_zero.mp h
    rw [Int.emod_eq_of_lt (by decide) (by omega)] at this
    cases this
  intro ns
  induction ns with
  | nil => intro a ha _; exact ha
  | cons n r ih =>
    intro a ha h
    exact ih _ (cg_mul_ne hq ha (h n (List.mem_cons_self ..))) fun m hm => h m (List.mem_cons_of_mem _ hm)
/-- unlike places below the prime -/
def PlacesL (q : Int) (ns : List Int) : Prop := (∀ n ∈ ns, 0 ≤ n ∧ n < q) ∧ ns.Nodup
theorem PlacesL.off {q : Int} {ns : List Int} (h : PlacesL q ns) {i : Nat} {n : Int} (hi : ns[i]? = some n) : ∀ m ∈ offAt ns i, ¬ Cg q (n - m) 0 := by
  intro m hm
  have hn := h.1 n (List.mem_of_getElem? hi)
  obtain ⟨hl, he⟩ := List.getElem?_eq_some_iff.mp hi
  have hm' : m ∈ ns ∧ n ≠ m := by
    rcases List.mem_append.mp hm with z | z
    · refine ⟨List.mem_of_mem_take z, fun e => ?_⟩
      obtain ⟨j, hj, ej⟩ := List.mem_take_iff_getElem.mp z
      have := nodup_ne h.2 (i := j) (j := i) (x := n) (by rw [e, ← ej]; exact List.getElem?_eq_getElem (by omega)) hi
      omega
    · refine ⟨List.mem_of_mem_drop z, fun e => ?_⟩
      obtain ⟨j, hj, ej⟩ := List.mem_iff_getElem.mp z
      rw [List.getElem_drop] at ej
      have hj' : i + 1 + j < ns.length := by rw [List.length_drop] at hj; omega
      have := nodup_ne h.2 (i := i + 1 + j) (j := i) (x := n) (by rw [e, ← ej]; exact List.getElem?_eq_getElem hj') hi
      omega
  have hb := h.1 m hm'.1
  exact cg_ne hn.1 hn.2 hb.1 hb.2 hm'.2
theorem mod_step {q a g b : Int} (h : Cg q a g) (c : Int) (e : b = a * c % q) : Cg q b (g * c) := by
  rw [e]
  exact (Cg.mod q _).trans (h.mul (Cg.refl q c))
theorem gap_perm {x : Int} {a b : List Int} (h : a.Perm b) : gapP x a = gapP x b := by
  unfold gapP
  suffices key : ∀ c : Int, a.foldl (fun a n => a * (x - n)) c = b.foldl (fun a n => a * (x - n)) c from key 1
  induction h with
  | nil => intro c; rfl
  | cons _ _ ih => intro c; exact ih _
  | swap m n l =>
    intro c
    show l.foldl _ (c * (x - n) * (x - m)) = l.foldl _ (c * (x - m) * (x - n))
    rw [Int.mul_right_comm]
  | trans _ _ ih1 ih2 => intro c; rw [ih1, ih2]
theorem uneq_places {q : Int} {ns : List Int} (h : PlacesL q ns) : Uneq q ns := by
  unfold Uneq
  refine List.Pairwise.imp_of_mem (fun {a b} ha hb hab => ?_) h.2
  exact cg_ne (h.1 a ha).1 (h.1 a ha).2 (h.1 b hb).1 (h.1 b hb).2 hab
theorem gap_has {q x : Int} : ∀ {ns : List Int}, x ∈ ns → Cg q (gapP x ns) 0 := by
  intro ns h
  unfold gapP
  suffices key : ∀ (ns : List Int) (a : Int), (x ∈ ns ∨ Cg q a 0) → Cg q (ns.foldl (fun a n => a * (x - n)) a) 0 from key ns 1 (.inl h)
  intro ns
  induction ns with
  | nil =>
    intro a h
    exact h.elim (fun z => by cases z) id
  | cons n r ih =>
    intro a h
    refine ih _ ?_
    rcases h with h | h
    · rcases List.mem_cons.mp h with rfl | h
      · right
        show Cg q (a * (x - x)) 0
        rw [Int.sub_self, Int.mul_zero]
        exact Cg.refl _ _
      · exact .inl h
    · right
      have := h.mul (Cg.refl q (x - n))
      rwa [Int.zero_mul] at this

/-! ### own lists beside one another -/
structure H2 (S : Store) (p l : Addr) (P L : List Sl) : Prop where
  hp : S p = some (.l P)
  hl : S l = some (.l L)
  pl : p ≠ l
theorem H2.setp {S : Store} {p l : Addr} {P L P' : List Sl} (h : H2 S p l P L) : H2 (sset S p P') p l P' L := ⟨sset_same, (sset_ne h.pl.symm).trans h.hl, h.pl⟩
theorem H2.setl {S : Store} {p l : Addr} {P L L' : List Sl} (h : H2 S p l P L) : H2 (sset S l L') p l P L' := ⟨(sset_ne h.pl).trans h.hp, sset_same, h.pl⟩
structure H3 (S : Store) (p l s : Addr) (P L Q : List Sl) : Prop where
  hp : S p = some (.l P)
  hl : S l = some (.l L)
  hs : S s = some (.l Q)
  pl : p ≠ l
  ps : p ≠ s
  ls : l ≠ s
theorem H3.setp {S : Store} {p l s : Addr} {P L Q P' : List Sl} (h : H3 S p l s P L Q) : H3 (sset S p P') p l s P' L Q := ⟨sset_same, (sset_ne h.pl.symm).trans h.hl, (sset_ne h.ps.symm).trans h.hs, h.pl, h.ps, h.ls⟩
theorem H3.setl {S : Store} {p l s : Addr} {P L Q L' : List Sl} (h : H3 S p l s P L Q) : H3 (sset S l L') p l s P L' Q := ⟨(sset_ne h.pl).trans h.hp, sset_same, (sset_ne h.ls.symm).trans h.hs, h.pl, h.ps, h.ls⟩
theorem H3.sets {S : Store} {p l s : Addr} {P L Q Q' : List Sl} (h : H3 S p l s P L Q) : H3 (sset S s Q') p l s P L Q' := ⟨(sset_ne h.ps).trans h.hp, (sset_ne h.ls).trans h.hl, sset_same, h.pl, h.ps, h.ls⟩
theorem ne_new {S : Store} {p l : Addr} {P : List Sl} (h : S p = some (.l P)) (n : S l = none) : p ≠ l := fun e => by
  rw [e, n] at h
  cases h
/-- a second, a third own list is made -/
theorem H2.mk' {S : Store} {p l : Addr} {P L : List Sl} (h : S p = some (.l P)) (n : S l = none) : H2 (sset S l L) p l P L := ⟨(sset_ne (ne_new h n)).trans h, sset_same, ne_new h n⟩
theorem H2.mk3 {S : Store} {p l s : Addr} {P L Q : List Sl} (h : H2 S p l P L) (n : S s = none) : H3 (sset S s Q) p l s P L Q :=
  ⟨(sset_ne (ne_new h.hp n)).trans h.hp, (sset_ne (ne_new h.hl n)).trans h.hl, sset_same, h.pl, ne_new h.hp n, ne_new h.hl n⟩
theorem pop_at {i : Int} {n : Nat} (h0 : 0 ≤ i) (h1 : i < (n : Int)) : seqIndex? i n = some i.toNat := by
  unfold seqIndex?
  have e : ¬ i < 0 := by omega
  simp [e, h0, h1]
/-! ### drawn out of a row -/
def rngI (lo : Int) (n : Nat) : List Int := (List.range n).map fun i => lo + (i : Nat)
theorem rngs_ints (lo : Int) (n : Nat) : rngs lo n = ((rngI lo n).map PyData.int).map Sl.d := by
  unfold rngs rngI
  rw [List.map_map, List.map_map]
  rfl
/-- what is left, what was drawn, of lo .. q - 1 -/
structure Drawn (lo q : Int) (ls ss : List Int) : Prop where
  nd : (ls ++ ss).Nodup
  low : ∀ n ∈ ls ++ ss, lo ≤ n ∧ n < q
  num : ((ls.length + ss.length : Nat) : Int) = q - lo
theorem Drawn.start {lo q : Int} (h : lo ≤ q) : Drawn lo q (rngI lo (q - lo).toNat) [] := by
  unfold rngI
  refine ⟨?_, fun n hn => ?_, ?_⟩
  · rw [List.append_nil]
    exact List.Pairwise.map _ (fun a b hab e => hab (by omega)) List.nodup_range
  · rw [List.append_nil] at hn
    obtain ⟨i, hi, rfl⟩ := List.mem_map.mp hn
    have := List.mem_range.mp hi
    omega
  · rw [List.length_map, List.length_range, List.length_nil]
    omega
theorem erase_perm : ∀ {l : List Int} {j : Nat} {x : Int}, l[j]? = some x → (x :: l.eraseIdx j).Perm l
  | [], j, x, h => by simp at h
  | a :: r, 0, x, h => by
    simp at h
    subst h
    exact List.Perm.refl _
  | a :: r, j + 1, x, h => by
    have ih := erase_perm (l := r) (j := j) (x := x) (by simpa using h)
    exact (List.Perm.swap a x _).trans (ih.cons a)
theorem draw_perm {ls ss : List Int} {j : Nat} {x : Int} (h : ls[j]? = some x) : (ls.eraseIdx j ++ (ss ++ [x])).Perm (ls ++ ss) := by
  have h1 : (ls.eraseIdx j ++ (ss ++ [x])).Perm (x :: (ls.eraseIdx j ++ ss)) := by
    rw [← List.append_assoc]
    exact List.perm_append_singleton _ _
  exact h1.trans (List.Perm.append_right ss (erase_perm h))
theorem Drawn.step {lo q : Int} {ls ss : List Int} {j : Nat} {x : Int} (d : Drawn lo q ls ss) (h : ls[j]? = some x) : Drawn lo q (ls.eraseIdx j) (ss ++ [x]) := by
  have hp := draw_perm (ss := ss) h
  refine ⟨hp.nodup_iff.mpr d.nd, fun n hn => d.low n (hp.mem_iff.mp hn), ?_⟩
  have := hp.length_eq
  have := d.num
  simp only [List.length_append] at *
  omega
theorem Drawn.places {lo q : Int} {ls ss : List Int} (d : Drawn lo q ls ss) (h : 0 ≤ lo) : PlacesL q ss :=
  ⟨fun n hn => by have := d.low n (List.mem_append_right _ hn); omega, (List.nodup_append.mp d.nd).2.1⟩
theorem ints_erase (ls : List Int) (j : Nat) : ((ls.map PyData.int).map Sl.d).eraseIdx j = ((ls.eraseIdx j).map PyData.int).map Sl.d := by
  induction ls generalizing j with
  | nil => rfl
  | cons a r ih =>
    cases j with
    | zero => rfl
    | succ j =>
      show _ :: _ = _ :: _
      rw [ih]
theorem ints_app (a b : List Int) : (a.map PyData.int).map Sl.d ++ (b.map PyData.int).map Sl.d = ((a ++ b).map PyData.int).map Sl.d := by rw [List.map_append, List.map_append]
theorem get_zip {us vs : List Int} {i : Nat} {x : Sl} (h : (List.zipWith prD (us.map PyData.int) (vs.map PyData.int))[i]? = some x) : ∃ u v, us[i]? = some u ∧ vs[i]? = some v ∧ x = prD (.int u) (.int v) := by
  rw [List.getElem?_zipWith, List.getElem?_map, List.getElem?_map] at h
  cases e : us[i]? with
  | none => rw [e] at h; simp at h
  | some u =>
    cases e' : vs[i]? with
    | none => rw [e, e'] at h; simp at h
    | some v =>
      rw [e, e'] at h
      cases h
      exact ⟨u, v, rfl, rfl, rfl⟩
theorem ixN_nat {n i : Nat} (h : i < n) : ixN n (i : Int) = some i := by
  unfold ixN
  simp [h]
theorem ints_set (ns : List Int) (j : Nat) (v : Int) : ((ns.map PyData.int).map Sl.d).set j (.d (.int v)) = ((ns.set j v).map PyData.int).map Sl.d := by rw [List.map_set, List.map_set]
theorem rngI_get {lo : Int} {n i : Nat} (h : i < n) : (rngI lo n)[i]? = some (lo + (i : Nat)) := by
  unfold rngI
  rw [List.getElem?_map, List.getElem?_range h]
  rfl
theorem rngI_len (lo : Int) (n : Nat) : (rngI lo n).length = n := by
  unfold rngI
  rw [List.length_map, List.length_range]
theorem filter_yes {p : Int → Bool} {l : List Int} {x : Int} (h : p x = true) : (l ++ [x]).filter p = l.filter p ++ [x] := by
  rw [List.filter_append, List.filter_cons_of_pos h, List.filter_nil]
theorem filter_no {p : Int → Bool} {l : List Int} {x : Int} (h : p x = false) : (l ++ [x]).filter p = l.filter p := by
  rw [List.filter_append, List.filter_cons_of_neg (by rw [h]; exact Bool.false_ne_true), List.filter_nil, List.append_nil]

def wp_worth : DWP := wp3 fun c x q st k _ => ∃ (ns : List Int) (xi qi : Int), (c = .d (.tuple (ns.map PyData.int)) ∨ lstOf st c = some ((ns.map PyData.int).map Sl.d)) ∧ x = .d (.int xi) ∧ q = .d (.int qi) ∧ 0 < qi ∧ qi < 2 ^ 60 ∧ k (.d (.int (pev ns xi % qi))) st
def r_worth_0 : DTS := (dRet (dVar 3))
def b_worth_0 : DTS := (dAsg (dOp fMod (dOp fAdd (dOp fMul (dVar 3) (dVar 1)) (dVar 4)) (dVar 2)) (gN 3))
theorem fl_worth_0 {α : Type} {L : List α} {e : α → Sl} {D : DEnds} {xs : List Sl} {stay : Store → Prop} {st : Store} {v_curve v_x v_prime v_found v_number : Option Sl} (hL : xs = L.map e) (I : List α → Option Sl → Store → Prop) (h0 : I [] v_found st)
    (hs : ∀ d a r (v_found' v_number' : Option Sl) S, L = d ++ a :: r → I d v_found' S → stay S ∧ (gN 4) (e a) [v_curve, v_x, v_prime, v_found', v_number'] S fun ρ1 S1 => b_worth_0 { D with nx := fun ρ' S' => ∃ v_found'' v_number'', ρ' = [v_curve, v_x, v_prime, v_found'', v_number''] ∧ I (d ++ [a]) v_found'' S', ct := fun ρ' S' => ∃ v_found'' v_number'', ρ' = [v_curve, v_x, v_prime, v_found'', v_number''] ∧ I (d ++ [a]) v_found'' S', bk := D.nx } ρ1 S1)
    (hd : ∀ (v_found' v_number' : Option Sl) S, I L v_found' S → stay S ∧ D.nx [v_curve, v_x, v_prime, v_found', v_number'] S) : ForGo (gN 4) b_worth_0 D xs stay [v_curve, v_x, v_prime, v_found, v_number] st :=
  ForGo.done L e hL (fun d ρ S => ∃ v_found' v_number', ρ = [v_curve, v_x, v_prime, v_found', v_number'] ∧ I d v_found' S) ⟨_, _, rfl, h0⟩ (fun d a r ρ S hL ⟨v_found', v_number', eρ, hi⟩ => by subst eρ; exact hs d a r v_found' v_number' S hL hi) fun ρ S ⟨v_found', v_number', eρ, hi⟩ => by subst eρ; exact hd v_found' v_number' S hi
def t_worth : DTS := (dSeq (dAsg (dC (.int 0)) (gN 3))
  (dSeq (dFor (iSq (dRev (dVar 0))) (gN 4) b_worth_0)
  (hold r_worth_0)))
theorem horner_take {l : List Int} {x q : Int} (hq : 0 < q) (i : Nat) : 0 ≤ (l.take i).foldl (fun a n => (a * x + n) % q) 0 ∧ (l.take i).foldl (fun a n => (a * x + n) % q) 0 < q := by
  have key : ∀ (m : List Int) (a : Int), 0 ≤ a ∧ a < q → 0 ≤ m.foldl (fun a n => (a * x + n) % q) a ∧ m.foldl (fun a n => (a * x + n) % q) a < q := by
    intro m
    induction m with
    | nil => intro a h; exact h
    | cons n r ih =>
      intro a _
      exact ih _ ⟨Int.emod_nonneg _ (Int.ne_of_gt hq), Int.emod_lt_of_pos _ hq⟩
  exact key _ 0 ⟨Int.le_refl 0, hq⟩
theorem fold_next {l : List Int} {f : Int → Int → Int} {i : Nat} {n : Int} (h : l[i]? = some n) (a : Int) : (l.take (i + 1)).foldl f a = f ((l.take i).foldl f a) n := by
  rw [List.take_add_one, h, List.foldl_append]
  rfl
theorem pure_worth : ∀ xs s k ke, wp_worth xs s k ke → t_worth { nx := fun _ s' => k (.d .none) s', rt := k } (startD ["curve", "x", "prime", "found", "number"] xs) s := by
  intro xs st k ke h
  obtain ⟨c, x, q, rfl, ns, xi, qi, hc, rfl, rfl, h0, h1, h⟩ := wp3_of h
  have er : (ns.map PyData.int).reverse = ns.reverse.map PyData.int := List.map_reverse.symm
  have loop : ∀ (c : Sl) (stay : Store → Prop), (∀ s, stay s) → ForGo (gN 4) b_worth_0 { nx := hold r_worth_0 { nx := fun _ s' => k (.d .none) s', rt := k }, rt := k } (((ns.map PyData.int).reverse).map Sl.d) stay [some c, some (.d (.int xi)), some (.d (.int qi)), some (.d (.int 0)), none] st := by
    intro c stay hs
    rw [er]
    refine fl_worth_0 (L := ns.reverse) (e := fun n => .d (.int n)) (by rw [List.map_map]; rfl) (fun d m S => S = st ∧ m = some (.d (.int (d.foldl (fun a n => (a * xi + n) % qi) 0)))) ⟨rfl, rfl⟩ ?_ ?_
    · rintro d n r m1 m2 S hL ⟨rfl, rfl⟩
      have hb := horner_take (l := d) (x := xi) h0 d.length
      rw [List.take_length] at hb
      refine ⟨hs _, ?_⟩
      walk_at "law g"
      refine ⟨_, _, rfl, rfl, ?_⟩
      rw [List.foldl_append]
      rfl
    · rintro m1 m2 S ⟨rfl, rfl⟩
      refine ⟨hs _, ?_⟩
      walk_at "law h"
      rw [List.foldl_reverse]
      have e := horner_mod ns xi qi
      rw [Int.zero_emod] at e
      rw [e]
      exact h
  rcases hc with rfl | hc
  · walk_at "law x"
    exact loop _ _ fun _ => trivial
  · cases c with
    | d d =>
      cases d with
      | list ds =>
        walk_at "law x"
        rw [show (ds.map Sl.d) = (ns.map PyData.int).map Sl.d from Option.some.inj hc]
        refine .inl ⟨(ns.map PyData.int).reverse, List.map_reverse.symm, ?_⟩
        walk_at "law x"
        exact loop _ _ fun _ => trivial
      | _ => cases hc
    | o p =>
      walk_at "law x"
      rw [hc]
      refine .inl ⟨(ns.map PyData.int).reverse, List.map_reverse.symm, ?_⟩
      walk_at "law x"
      exact loop _ _ fun _ => trivial
    | r ds =>
      walk_at "law x"
      rw [show (ds.map Sl.d) = (ns.map PyData.int).map Sl.d from Option.some.inj hc]
      refine .inl ⟨(ns.map PyData.int).reverse, List.map_reverse.symm, ?_⟩
      walk_at "law x"
      exact loop _ _ fun _ => trivial
    | _ => cases hc

def wp_turned : DWP := wp2 fun n q st k _ => ∃ ni qi : Int, n = .d (.int ni) ∧ q = .d (.int qi) ∧ qi ∈ nine ∧ 0 < ni ∧ ni < qi ∧ ∀ b, 0 < b → b < qi → ni * b % qi = 1 → k (.d (.int b)) st
def r_turned_0 : DTS := (dRet (dOp fIx (dLc (iRg2 (dCons (dC (.int 1)) (dCons (dVar 1) dNil))) (gN 2) (dB (dOp (fEq false) (dOp fMod (dOp fMul (dVar 0) (dVar 2)) (dVar 1)) (dC (.int 1)))) (dVar 2) [2]) (dC (.int 0))))
def t_turned : DTS := (dSeq (dIfS (dB (dOp (fEq false) (dVar 0) (dC (.int 0)))) dNever dNext)
  (hold r_turned_0))
theorem pure_turned : ∀ xs s k ke, wp_turned xs s k ke → t_turned { nx := fun _ s' => k (.d .none) s', rt := k } (startD ["number", "prime", "other"] xs) s := by
  intro xs st k ke h
  obtain ⟨n, q, rfl, ni, qi, rfl, rfl, hq, n0, n1, h⟩ := wp2_of h
  have hq5 := nine_le hq
  walk_at "law x"
  rw [show decide (ni = 0) = false from decide_eq_false (by omega)]
  walk_at "law h"
  refine ⟨⟨by omega, by omega, by omega, by omega⟩, LcGo.inv (fun i acc s' => s' = st ∧ ∃ ms, IntL qi acc ms ∧ (∀ m ∈ ms, 0 < m ∧ ni * m % qi = 1) ∧ ms.length ≤ i ∧ ∀ m : Int, 0 < m → m < 1 + (i : Nat) → ni * m % qi = 1 → ms ≠ []) ⟨rfl, [], ⟨rfl, fun _ z => by cases z⟩, (fun _ z => by cases z), Nat.le_refl _, fun m a b => by omega⟩ ?_ ?_⟩
  · rintro i x acc s' hx ⟨rfl, ms, ha, hm, hl, hs⟩
    obtain ⟨hi, rfl⟩ := rngs_get hx
    refine ⟨trivial, ?_⟩
    walk_at "law x"
    refine ⟨cm_l ⟨by omega, by omega⟩, ?_⟩
    walk_at "law x"
    refine ⟨by omega, ?_⟩
    walk_at "law x"
    cases c : decide (ni * (1 + (i : Nat)) % qi = 1) with
    | false =>
      refine ⟨rfl, ms, ha, hm, by omega, fun m m0 m1 me => ?_⟩
      by_cases e : m = 1 + (i : Nat)
      · rw [e] at me
        exact absurd me (of_decide_eq_false c)
      · exact hs m m0 (by omega) me
    | true =>
      walk_at "law x"
      refine ⟨by rw [ha.1, len_ints]; exact sz_lt (by omega), rfl, ms ++ [(1 : Int) + (i : Nat)], ha.app ⟨rfl, fun m hm => by rw [List.mem_singleton.mp hm]; omega⟩, fun m hm' => ?_, by rw [List.length_append]; show _ + 1 ≤ _; omega, fun m _ _ _ => by simp⟩
      rcases List.mem_append.mp hm' with h' | h'
      · exact hm m h'
      · rw [List.mem_singleton.mp h']
        exact ⟨by omega, of_decide_eq_true c⟩
  · rintro acc s' ⟨rfl, ms, ha, hm, hl, hs⟩
    rw [rngs_len] at hs
    obtain ⟨b, b0, b1, be⟩ := nine_inv hq n0 n1
    have hne := hs b b0 (by omega) be
    refine ⟨trivial, .inl ⟨_, ha.1, ?_⟩⟩
    cases ms with
    | nil => exact absurd rfl hne
    | cons m r =>
      walk_at "law x"
      rw [List.map_cons, List.map_cons, at0]
      exact h m (hm m (List.mem_cons_self ..)).1 (ha.2 m (List.mem_cons_self ..)).2 (hm m (List.mem_cons_self ..)).2

/-! ### companies -/
def coT (q n t : Int) : PyData := .tuple [.int q, .int n, .int t]
def coC (c : Int × Int × Int) : PyData := coT c.1 c.2.1 c.2.2
structure Comp (q n t : Int) : Prop where
  prime : q ∈ nine
  n3 : 3 ≤ n
  n7 : n ≤ 7
  nq : n < q
  t1 : 1 ≤ t
  tn : 2 * t < n

def wp_law_company : DWP := wp2 fun a b st k _ => ∃ (p : Addr) (cs : List (Int × Int × Int)), a = .o p ∧ b = .d (.list (cs.map coC)) ∧ Pen p st ∧ 1 ≤ cs.length ∧ cs.length ≤ 1000 ∧ ∀ q n t S, (q, n, t) ∈ cs → Pen p S → Fx [p] st S → k (.d (coT q n t)) S
def t_law_company : DTS := (dRet (dOp fIx (dVar 1) (dCall wp_law_draw [] (fun _ _ => False) (dCons (dVar 0) (dCons (dCB fLen (dCons (dVar 1) dNil)) dNil)))))
theorem atI_map {α : Type} (cs : List α) (e : α → Sl) {d : Int} (d0 : 0 ≤ d) (d1 : d < cs.length) : ∃ c ∈ cs, atI (cs.map e) d = some (e c) := by
  obtain ⟨j, rfl⟩ : ∃ j : Nat, d = j := ⟨d.toNat, by omega⟩
  have hj : j < cs.length := by omega
  exact ⟨cs[j], List.getElem_mem hj, atI_nat (by rw [List.getElem?_map, List.getElem?_eq_getElem hj]; rfl)⟩
theorem pure_law_company : ∀ xs s k ke, wp_law_company xs s k ke → t_law_company { nx := fun _ s' => k (.d .none) s', rt := k } (startD ["_law_pen_here", "_law_some"] xs) s := by
  intro xs st k ke h
  obtain ⟨a, b, rfl, p, cs, rfl, rfl, hP, h1, h2, h⟩ := wp2_of h
  walk_at "law x"
  rw [List.length_map, List.length_map]
  refine ⟨p, _, rfl, rfl, hP, by omega, by omega, fun d S d0 d1 hP hF => ?_⟩
  walk_at "law x"
  obtain ⟨c, hc, e⟩ := atI_map cs (fun c => Sl.d (coC c)) d0 d1
  rw [List.map_map, show (Sl.d ∘ coC) = (fun c => Sl.d (coC c)) from rfl, e]
  exact h _ _ _ S hc hP hF
def wp_law_coins : DWP := wp3 fun a q m st k _ => ∃ (p : Addr) (qi mi : Int), a = .o p ∧ Pen p st ∧ q = .d (.int qi) ∧ 0 < qi ∧ qi < 1000 ∧ m = .d (.int mi) ∧ 0 ≤ mi ∧ mi ≤ 1000 ∧
  ∀ (cs : List Int) S, (∀ c ∈ cs, 0 ≤ c ∧ c < qi) → cs.length = mi.toNat → Pen p S → Fx [p] st S → k (.d (.tuple (cs.map PyData.int))) S
def t_law_coins : DTS := (dRet (dCB fTuple (dCons (dLc (iRg1 (dCons (dVar 2) dNil)) (gN 3) dYes (dCall wp_law_draw [] (fun _ _ => False) (dCons (dVar 0) (dCons (dVar 1) dNil))) [3]) dNil)))
theorem pure_law_coins : ∀ xs s k ke, wp_law_coins xs s k ke → t_law_coins { nx := fun _ s' => k (.d .none) s', rt := k } (startD ["_law_pen_here", "_law_prime", "_law_many", "_law_k"] xs) s := by
  intro xs st k ke h
  obtain ⟨a, q, m, rfl, p, qi, mi, rfl, hP, rfl, q0, q1, rfl, m0, m1, h⟩ := wp3_of h
  walk_at "law x"
  refine ⟨⟨by omega, by omega⟩, LcGo.each (List.range mi.toNat) (fun i => .d (.int (0 + (i : Nat)))) (fun S => Pen p S ∧ Fx [p] st S) (fun _ d => ∃ c : Int, d = .int c ∧ 0 ≤ c ∧ c < qi) rfl (by walk_at "law c") ⟨hP, Fx.refl _ _⟩ (fun _ _ => trivial) ?_ ?_⟩
  · rintro i hi S ⟨hP, hF⟩ N P hPP
    walk_at "law x"
    exact ⟨p, qi, rfl, rfl, hP, q0, by omega, fun d S' d0 d1 hP' hF' => hPP _ _ ⟨d, rfl, d0, d1⟩ ⟨hP', hF.trans hF'⟩⟩
  · rintro ds S hq ⟨hP, hF⟩
    obtain ⟨cs, rfl, hcs⟩ := hq.of (e := PyData.int) (R := fun _ c => 0 ≤ c ∧ c < qi) fun _ _ z => z
    walk_at "law x"
    rw [allD_map]
    exact h cs S hcs.right (by rw [← hcs.length, List.length_range]) hP hF

/-- a curve by (x - a), the number ahead told -/
def wn (q a u : Int) (ns : List Int) : List Int := List.zipWith (fun u v => (u - v * a) % q) (u :: ns) ns ++ (u :: ns).drop ns.length
theorem wn_cons (q a u m : Int) (r : List Int) : wn q a u (m :: r) = (u - m * a) % q :: wn q a m r := rfl
theorem wn_len (q a : Int) : ∀ (u : Int) (ns : List Int), (wn q a u ns).length = ns.length + 1
  | _, [] => rfl
  | u, m :: r => by rw [wn_cons, List.length_cons, wn_len q a m r, List.length_cons]
theorem wn_pev {q a x : Int} : ∀ (u : Int) (ns : List Int), Cg q (pev (wn q a u ns) x) (pev (u :: ns) x - a * pev ns x)
  | u, [] => by
    have e : pev [u] x - a * pev [] x = pev [u] x := by
      show _ - a * 0 = _
      rw [Int.mul_zero, Int.sub_zero]
    rw [e]
    exact Cg.refl _ _
  | u, m :: r => by
    have ih := wn_pev (q := q) (a := a) (x := x) m r
    rw [wn_cons, pev_cons, pev_cons u (m :: r)]
    have h := (ih.mul (Cg.refl q x)).add (Cg.mod q (u - m * a))
    have e : (pev (m :: r) x - a * pev r x) * x + (u - m * a) = pev (m :: r) x * x + u - a * pev (m :: r) x := by
      rw [pev_cons m r]
      grind
    rw [e] at h
    exact h
theorem wn_low {q a : Int} (h0 : 0 < q) : ∀ (u : Int) (ns : List Int), (0 ≤ u ∧ u < q) → (∀ n ∈ ns, 0 ≤ n ∧ n < q) → ∀ n ∈ wn q a u ns, 0 ≤ n ∧ n < q
  | u, [], hu, _, n, hn => by
    rw [List.mem_singleton.mp hn]
    exact hu
  | u, m :: r, hu, h, n, hn => by
    rw [wn_cons] at hn
    rcases List.mem_cons.mp hn with rfl | hn
    · exact ⟨Int.emod_nonneg _ (Int.ne_of_gt h0), Int.emod_lt_of_pos _ h0⟩
    · exact wn_low h0 m r (h m (List.mem_cons_self ..)) (fun n hn => h n (List.mem_cons_of_mem _ hn)) n hn
/-- the first j done -/
def wnJ (q a : Int) (ns : List Int) (j : Nat) : List Int := (List.zipWith (fun u v => (u - v * a) % q) (0 :: ns) ns).take j ++ (0 :: ns).drop j
theorem wnJ_len {q a : Int} {ns : List Int} {j : Nat} (h : j ≤ ns.length) : (wnJ q a ns j).length = ns.length + 1 := by
  unfold wnJ
  simp only [List.length_append, List.length_take, List.length_zipWith, List.length_drop, List.length_cons]
  omega
theorem wnJ_at {q a : Int} {ns : List Int} {j : Nat} (h : j < ns.length) : ∃ u, (0 :: ns)[j]? = some u ∧ (wnJ q a ns j)[j]? = some u := by
  have h1 : (0 :: ns)[j]? = some ((0 :: ns)[j]'(by simp; omega)) := List.getElem?_eq_getElem _
  refine ⟨_, h1, ?_⟩
  unfold wnJ
  have e : ((List.zipWith (fun u v => (u - v * a) % q) (0 :: ns) ns).take j).length = j := by
    simp only [List.length_take, List.length_zipWith, List.length_cons]
    omega
  rw [List.getElem?_append_right (by omega), e, Nat.sub_self, List.getElem?_drop, Nat.add_zero]
  exact h1
theorem wnJ_next {q a : Int} {ns : List Int} {j : Nat} {u v : Int} (hu : (0 :: ns)[j]? = some u) (hv : ns[j]? = some v) : (wnJ q a ns j).set j ((u - v * a) % q) = wnJ q a ns (j + 1) := by
  have hj := (List.getElem?_eq_some_iff.mp hv).1
  unfold wnJ
  have e : ((List.zipWith (fun u v => (u - v * a) % q) (0 :: ns) ns).take j).length = j := by
    simp only [List.length_take, List.length_zipWith, List.length_cons]
    omega
  have ez : (List.zipWith (fun u v => (u - v * a) % q) (0 :: ns) ns)[j]? = some ((u - v * a) % q) := by
    rw [List.getElem?_zipWith, hu, hv]
  rw [List.set_append_right _ _ (by omega), e, Nat.sub_self, List.take_add_one, ez]
  obtain ⟨hl, hg⟩ := List.getElem?_eq_some_iff.mp hu
  rw [List.drop_eq_getElem_cons hl, List.set_cons_zero, List.append_assoc]
  rfl
def wp_with_nought : DWP := wp3 fun c a q st k _ => ∃ (ns : List Int) (ai qi : Int), lstOf st c = some ((ns.map PyData.int).map Sl.d) ∧ a = .d (.int ai) ∧ q = .d (.int qi) ∧ 0 < qi ∧ (-(2 ^ 60) < ai ∧ ai < 2 ^ 60) ∧ ns.length ≤ 1000 ∧ ∀ p, st p = none → k (.o p) (sset st p (((wn qi ai 0 ns).map PyData.int).map Sl.d))
def r_with_nought_0 : DTS := (dRet (dVar 3))
def b_with_nought_0 : DTS := (dAsg (dOp fMod (dOp fSub (dOp fIx (dVar 3) (dVar 4)) (dOp fMul (dVar 5) (dVar 1))) (dVar 2)) (gSb2 (dVar 3) (dVar 4)))
theorem fl_with_nought_0 {α : Type} {L : List α} {e : α → Sl} {D : DEnds} {xs : List Sl} {stay : Store → Prop} {st : Store} {v_curve v_place v_prime v_longer v_at v_number : Option Sl} (hL : xs = L.map e) (I : List α → Store → Prop) (h0 : I [] st)
    (hs : ∀ d a r (v_at' v_number' : Option Sl) S, L = d ++ a :: r → I d S → stay S ∧ (gTp 2 (gCn (gN 4) (gCn (gN 5) gNl))) (e a) [v_curve, v_place, v_prime, v_longer, v_at', v_number'] S fun ρ1 S1 => b_with_nought_0 { D with nx := fun ρ' S' => ∃ v_at'' v_number'', ρ' = [v_curve, v_place, v_prime, v_longer, v_at'', v_number''] ∧ I (d ++ [a]) S', ct := fun ρ' S' => ∃ v_at'' v_number'', ρ' = [v_curve, v_place, v_prime, v_longer, v_at'', v_number''] ∧ I (d ++ [a]) S', bk := D.nx } ρ1 S1)
    (hd : ∀ (v_at' v_number' : Option Sl) S, I L S → stay S ∧ D.nx [v_curve, v_place, v_prime, v_longer, v_at', v_number'] S) : ForGo (gTp 2 (gCn (gN 4) (gCn (gN 5) gNl))) b_with_nought_0 D xs stay [v_curve, v_place, v_prime, v_longer, v_at, v_number] st :=
  ForGo.done L e hL (fun d ρ S => ∃ v_at' v_number', ρ = [v_curve, v_place, v_prime, v_longer, v_at', v_number'] ∧ I d S) ⟨_, _, rfl, h0⟩ (fun d a r ρ S hL ⟨v_at', v_number', eρ, hi⟩ => by subst eρ; exact hs d a r v_at' v_number' S hL hi) fun ρ S ⟨v_at', v_number', eρ, hi⟩ => by subst eρ; exact hd v_at' v_number' S hi
def t_with_nought : DTS := (dSeq (dAsg (dOp fAdd (dLst (dCons (dC (.int 0)) dNil)) (dCB fList (dCons (dVar 0) dNil))) (gN 3))
  (dSeq (dFor (iEnT (dCons (dVar 0) dNil)) (gTp 2 (gCn (gN 4) (gCn (gN 5) gNl))) b_with_nought_0)
  (hold r_with_nought_0)))
theorem stays_fx {st S : Store} {c : Sl} {xs : List Sl} (h : seqOf st c = some xs) (f : Fx [] st S) : stays c xs S := by
  cases c with
  | o a =>
    unfold seqOf at h
    dsimp only at h
    split at h
    · next ys hy =>
      cases h
      exact f a _ (by simp) hy
    · cases h
  | _ => trivial
theorem seq_fx {st S : Store} {c : Sl} {xs : List Sl} (h : seqOf st c = some xs) (f : Fx [] st S) : seqOf S c = some xs := by
  cases c with
  | o a =>
    unfold seqOf at h ⊢
    dsimp only at h ⊢
    split at h
    · next ys hy =>
      cases h
      rw [f a _ (by simp) hy]
    · cases h
  | d d => cases d <;> first | exact h | cases h
  | r d => exact h
  | tn => exact h
  | tc a b => exact h
  | v d => cases h
theorem pure_with_nought : ∀ xs s k ke, wp_with_nought xs s k ke → t_with_nought { nx := fun _ s' => k (.d .none) s', rt := k } (startD ["curve", "place", "prime", "longer", "at", "number"] xs) s := by
  intro xs st k ke h
  obtain ⟨c, a, q, rfl, ns, ai, qi, hc, rfl, rfl, hq, ha, hlen, h⟩ := wp3_of h
  walk_at "law x"
  refine ⟨by decide, .inl ⟨[.int 0], rfl, ?_⟩⟩
  walk_at "law x"
  rw [lst_seq hc]
  refine .inl ⟨_, rfl, ?_⟩
  walk_at "law x"
  refine ⟨by rw [len_ints]; show 1 + _ ≤ _; exact sz_le (by omega), .inr fun p np => ?_⟩
  have e0 : [PyData.int 0].map Sl.d ++ (ns.map PyData.int).map Sl.d = ((wnJ qi ai ns 0).map PyData.int).map Sl.d := rfl
  rw [e0]
  have fx : ∀ c, Fx [] st (cset st p c) := fun c => (Fx.refl _ _).new np
  have hq' := lst_seq hc
  walk_at "law x"
  rw [seq_fx hq' (fx _)]
  walk_at "law x"
  rw [allD_map]
  walk_at "law x"
  refine ForGo.inv (fun j ρ S => S = sset st p (((wnJ qi ai ns j).map PyData.int).map Sl.d) ∧ j ≤ ns.length ∧ ∃ o1 o2, ρ = [some c, some (.d (.int ai)), some (.d (.int qi)), some (.o p), o1, o2]) ⟨rfl, Nat.zero_le _, _, _, rfl⟩ ?_ ?_
  · rintro j x ρ S hx ⟨rfl, hj, o1, o2, rfl⟩
    obtain ⟨d, hd, rfl⟩ := enD_get hx
    obtain ⟨v, hv, rfl⟩ := get_int hd
    have hj' := (List.getElem?_eq_some_iff.mp hv).1
    obtain ⟨u, hu, hw⟩ := wnJ_at (q := qi) (a := ai) hj'
    refine ⟨stays_fx hq' (fx _), ?_⟩
    walk_at "law x"
    refine ⟨rfl, ?_⟩
    walk_at "law x"
    rw [atI_nat (intsGet hw)]
    walk_at "law x"
    refine ⟨cm_r ⟨by omega, by omega⟩, ?_⟩
    walk_at "law x"
    refine ⟨hq, ?_⟩
    walk_at "law x"
    rw [len_ints, wnJ_len hj, ixN_nat (by omega)]
    walk_at "law x"
    refine ⟨?_, hj', _, _, rfl⟩
    rw [sset_sset, ints_set, wnJ_next hu hv]
  · rintro ρ S ⟨rfl, hj, o1, o2, rfl⟩
    rw [enD_len, List.length_map]
    refine ⟨stays_fx hq' (fx _), ?_⟩
    have e : wnJ qi ai ns ns.length = wn qi ai 0 ns := by
      unfold wnJ wn
      rw [List.take_of_length_le (by rw [List.length_zipWith]; omega)]
    walk_at "law h"
    rw [e]
    exact h p np

def prT (p : Int × Int) : PyData := .tuple [.int p.1, .int p.2]
/-- a curve through all points, as many numbers -/
structure Thru (q : Int) (ps : List (Int × Int)) (cs : List Int) : Prop where
  num : cs.length = ps.length
  low : ∀ c ∈ cs, 0 ≤ c ∧ c < q
  has : ∀ p ∈ ps, Cg q (pev cs p.1) p.2
theorem Thru.one {q : Int} {ps : List (Int × Int)} {cs ds : List Int} (hq : q ∈ nine) (hp : PlacesL q (ps.map (·.1))) (h : Thru q ps cs) (g : Thru q ps ds) : cs = ds := by
  refine curves_eq hq (uneq_places hp) (h.num.trans g.num.symm) (by rw [List.length_map, h.num]; exact Nat.le_refl _) h.low g.low fun x hx => ?_
  obtain ⟨p, hp, rfl⟩ := List.mem_map.mp hx
  exact (h.has p hp).trans (g.has p hp).symm
theorem seq_kp {S S' : Store} {c : Sl} {xs : List Sl} (h : seqOf S c = some xs) (k : Kp S S') : seqOf S' c = some xs := seq_fx h k
theorem stays_kp {S S' : Store} {c : Sl} {xs : List Sl} (h : seqOf S c = some xs) (k : Kp S S') : stays c xs S' := stays_fx h k
theorem get_prT {ps : List (Int × Int)} {i : Nat} {x : Sl} (h : ((ps.map prT).map Sl.d)[i]? = some x) : ∃ p, ps[i]? = some p ∧ x = .d (prT p) := by
  rw [List.getElem?_map, List.getElem?_map] at h
  cases e : ps[i]? with
  | none =>
    rw [e] at h
    cases h
  | some p =>
    rw [e] at h
    cases h
    exact ⟨p, rfl, rfl⟩
theorem len_prT (ps : List (Int × Int)) : ((ps.map prT).map Sl.d).length = ps.length := by rw [List.length_map, List.length_map]
theorem fst_get {ps : List (Int × Int)} {i : Nat} {p : Int × Int} (h : ps[i]? = some p) : (ps.map (·.1))[i]? = some p.1 := by rw [List.getElem?_map, h]; rfl
theorem gap_last {q : Int} (hq : q ∈ nine) {ns : List Int} (hp : PlacesL q ns) {j : Nat} {n : Int} (h : ns[j]? = some n) : ¬ Cg q (gapP n (ns.take j)) 0 :=
  gap_ne hq _ fun m hm => hp.off h m (List.mem_append_left _ hm)
/-- one more point -/
def addT (q t : Int) (fs ks : List Int) : List Int := List.zipWith (fun u v => (u + t * v) % q) (fs ++ [0]) ks
theorem addT_pev {q t x : Int} : ∀ {fs ks : List Int}, ks.length = fs.length + 1 → Cg q (pev (addT q t fs ks) x) (pev fs x + t * pev ks x)
  | [], [], h => by cases h
  | [], [k], _ => by
    show Cg q (0 * x + (0 + t * k) % q) (0 + t * (0 * x + k))
    rw [Int.zero_mul, Int.zero_add, Int.zero_add, Int.zero_add, Int.zero_add]
    exact Cg.mod q _
  | [], _ :: _ :: _, h => by simp at h
  | f :: fs, [], h => by cases h
  | f :: fs, k :: ks, h => by
    have ih := addT_pev (q := q) (t := t) (x := x) (fs := fs) (ks := ks) (by simpa using h)
    have e : addT q t (f :: fs) (k :: ks) = (f + t * k) % q :: addT q t fs ks := rfl
    rw [e, pev_cons, pev_cons f fs, pev_cons k ks]
    have h := (ih.mul (Cg.refl q x)).add (Cg.mod q (f + t * k))
    have e2 : (pev fs x + t * pev ks x) * x + (f + t * k) = pev fs x * x + f + t * (pev ks x * x + k) := by grind
    rw [e2] at h
    exact h
theorem addT_len {q t : Int} {fs ks : List Int} (h : ks.length = fs.length + 1) : (addT q t fs ks).length = fs.length + 1 := by
  unfold addT
  rw [List.length_zipWith, List.length_append, h]
  simp
theorem addT_low {q t : Int} (h0 : 0 < q) {fs ks : List Int} : ∀ n ∈ addT q t fs ks, 0 ≤ n ∧ n < q := fun n hn => by
  obtain ⟨i, hi⟩ := List.mem_iff_getElem?.mp hn
  unfold addT at hi
  rw [List.getElem?_zipWith] at hi
  cases e : (fs ++ [0])[i]? with
  | none => rw [e] at hi; simp at hi
  | some u =>
    cases e' : ks[i]? with
    | none => rw [e, e'] at hi; simp at hi
    | some v =>
      rw [e, e'] at hi
      cases hi
      exact ⟨Int.emod_nonneg _ (Int.ne_of_gt h0), Int.emod_lt_of_pos _ h0⟩
def wp_through : DWP := wp2 fun pts q st k _ => ∃ (ps : List (Int × Int)) (qi : Int), seqOf st pts = some ((ps.map prT).map Sl.d) ∧ q = .d (.int qi) ∧ qi ∈ nine ∧ PlacesL qi (ps.map (·.1)) ∧ (∀ p ∈ ps, -(2 ^ 60) < p.2 ∧ p.2 < 2 ^ 60) ∧ ps.length ≤ 40 ∧
  ∀ cs S, Thru qi ps cs → Kp st S → k (.d (.tuple (cs.map PyData.int))) S
def r_through_0 : DTS := (dRet (dCB fTuple (dCons (dVar 5) dNil)))
def b_through_0 : DTS := (dSeq (dAsg (dOp fMod (dOp fSub (dVar 7) (dCall wp_worth [] (fun _ _ => False) (dCons (dVar 5) (dCons (dVar 4) (dCons (dVar 1) dNil))))) (dVar 1)) (gN 8))
  (dSeq (dAsg (dOp fMod (dOp fMul (dVar 8) (dCall wp_turned [] (fun _ _ => False) (dCons (dCall wp_worth [] (fun _ _ => False) (dCons (dVar 6) (dCons (dVar 4) (dCons (dVar 1) dNil)))) (dCons (dVar 1) dNil)))) (dVar 1)) (gN 9))
  (dSeq (dAsg (dLc (iZpS (dCons (dOp fAdd (dVar 5) (dLst (dCons (dC (.int 0)) dNil))) (dCons (dVar 6) dNil))) (gTp 2 (gCn (gN 10) (gCn (gN 11) gNl))) dYes (dOp fMod (dOp fAdd (dVar 10) (dOp fMul (dVar 9) (dVar 11))) (dVar 1)) [10, 11]) (gN 5))
  (dAsg (dCall wp_with_nought [] (fun _ _ => False) (dCons (dVar 6) (dCons (dVar 4) (dCons (dVar 1) dNil)))) (gN 6)))))
theorem fl_through_0 {α : Type} {L : List α} {e : α → Sl} {D : DEnds} {xs : List Sl} {stay : Store → Prop} {st : Store} {v_points v_prime v_places v_at v_place v_found v_nought v_number v_gap v_times v_one v_other : Option Sl} (hL : xs = L.map e) (I : List α → Option Sl → Option Sl → Store → Prop) (h0 : I [] v_found v_nought st)
    (hs : ∀ d a r (v_found' v_nought' v_place' v_number' v_gap' v_times' : Option Sl) S, L = d ++ a :: r → I d v_found' v_nought' S → stay S ∧ (gTp 2 (gCn (gN 4) (gCn (gN 7) gNl))) (e a) [v_points, v_prime, v_places, v_at, v_place', v_found', v_nought', v_number', v_gap', v_times', v_one, v_other] S fun ρ1 S1 => b_through_0 { D with nx := fun ρ' S' => ∃ v_found'' v_nought'' v_place'' v_number'' v_gap'' v_times'', ρ' = [v_points, v_prime, v_places, v_at, v_place'', v_found'', v_nought'', v_number'', v_gap'', v_times'', v_one, v_other] ∧ I (d ++ [a]) v_found'' v_nought'' S', ct := fun ρ' S' => ∃ v_found'' v_nought'' v_place'' v_number'' v_gap'' v_times'', ρ' = [v_points, v_prime, v_places, v_at, v_place'', v_found'', v_nought'', v_number'', v_gap'', v_times'', v_one, v_other] ∧ I (d ++ [a]) v_found'' v_nought'' S', bk := D.nx } ρ1 S1)
    (hd : ∀ (v_found' v_nought' v_place' v_number' v_gap' v_times' : Option Sl) S, I L v_found' v_nought' S → stay S ∧ D.nx [v_points, v_prime, v_places, v_at, v_place', v_found', v_nought', v_number', v_gap', v_times', v_one, v_other] S) : ForGo (gTp 2 (gCn (gN 4) (gCn (gN 7) gNl))) b_through_0 D xs stay [v_points, v_prime, v_places, v_at, v_place, v_found, v_nought, v_number, v_gap, v_times, v_one, v_other] st :=
  ForGo.done L e hL (fun d ρ S => ∃ v_found' v_nought' v_place' v_number' v_gap' v_times', ρ = [v_points, v_prime, v_places, v_at, v_place', v_found', v_nought', v_number', v_gap', v_times', v_one, v_other] ∧ I d v_found' v_nought' S) ⟨_, _, _, _, _, _, rfl, h0⟩ (fun d a r ρ S hL ⟨v_found', v_nought', v_place', v_number', v_gap', v_times', eρ, hi⟩ => by subst eρ; exact hs d a r v_found' v_nought' v_place' v_number' v_gap' v_times' S hL hi) fun ρ S ⟨v_found', v_nought', v_place', v_number', v_gap', v_times', eρ, hi⟩ => by subst eρ; exact hd v_found' v_nought' v_place' v_number' v_gap' v_times' S hi
def r_through_1 : DTS := (dSeq (dAsg (dLst dNil) (gN 5))
  (dSeq (dAsg (dLst (dCons (dC (.int 1)) dNil)) (gN 6))
  (dSeq (dFor (iSq (dVar 0)) (gTp 2 (gCn (gN 4) (gCn (gN 7) gNl))) b_through_0)
  (hold r_through_0))))
def b_through_1 : DTS := (dIfS (dB (dOp (fIn false) (dVar 4) (dSl (dVar 2) dNoP (dPt (dVar 3))))) dNever dNext)
theorem fl_through_1 {α : Type} {L : List α} {e : α → Sl} {D : DEnds} {xs : List Sl} {stay : Store → Prop} {st : Store} {v_points v_prime v_places v_at v_place v_found v_nought v_number v_gap v_times v_one v_other : Option Sl} (hL : xs = L.map e) (I : List α → Store → Prop) (h0 : I [] st)
    (hs : ∀ d a r (v_at' v_place' : Option Sl) S, L = d ++ a :: r → I d S → stay S ∧ (gTp 2 (gCn (gN 3) (gCn (gN 4) gNl))) (e a) [v_points, v_prime, v_places, v_at', v_place', v_found, v_nought, v_number, v_gap, v_times, v_one, v_other] S fun ρ1 S1 => b_through_1 { D with nx := fun ρ' S' => ∃ v_at'' v_place'', ρ' = [v_points, v_prime, v_places, v_at'', v_place'', v_found, v_nought, v_number, v_gap, v_times, v_one, v_other] ∧ I (d ++ [a]) S', ct := fun ρ' S' => ∃ v_at'' v_place'', ρ' = [v_points, v_prime, v_places, v_at'', v_place'', v_found, v_nought, v_number, v_gap, v_times, v_one, v_other] ∧ I (d ++ [a]) S', bk := D.nx } ρ1 S1)
    (hd : ∀ (v_at' v_place' : Option Sl) S, I L S → stay S ∧ D.nx [v_points, v_prime, v_places, v_at', v_place', v_found, v_nought, v_number, v_gap, v_times, v_one, v_other] S) : ForGo (gTp 2 (gCn (gN 3) (gCn (gN 4) gNl))) b_through_1 D xs stay [v_points, v_prime, v_places, v_at, v_place, v_found, v_nought, v_number, v_gap, v_times, v_one, v_other] st :=
  ForGo.done L e hL (fun d ρ S => ∃ v_at' v_place', ρ = [v_points, v_prime, v_places, v_at', v_place', v_found, v_nought, v_number, v_gap, v_times, v_one, v_other] ∧ I d S) ⟨_, _, rfl, h0⟩ (fun d a r ρ S hL ⟨v_at', v_place', eρ, hi⟩ => by subst eρ; exact hs d a r v_at' v_place' S hL hi) fun ρ S ⟨v_at', v_place', eρ, hi⟩ => by subst eρ; exact hd v_at' v_place' S hi
def t_through : DTS := (dSeq (dAsg (dLc (iSq (dVar 0)) (gTp 2 (gCn (gN 4) (gCn (gN 7) gNl))) dYes (dVar 4) [4, 7]) (gN 2))
  (dSeq (dFor (iEnT (dCons (dVar 2) dNil)) (gTp 2 (gCn (gN 3) (gCn (gN 4) gNl))) b_through_1)
  (hold r_through_1)))
theorem pure_through : ∀ xs s k ke, wp_through xs s k ke → t_through { nx := fun _ s' => k (.d .none) s', rt := k } (startD ["points", "prime", "places", "at", "place", "found", "nought", "number", "gap", "times", "one", "other"] xs) s := by
  intro xs st k ke h
  obtain ⟨pts, q, rfl, ps, qi, hs, rfl, hq, hp, hn, hlen, h⟩ := wp2_of h
  have hq5 := nine_le hq
  walk_at "law x"
  rw [hs]
  walk_at "law x"
  refine LcGo.inv (fun i acc S => S = st ∧ i ≤ ps.length ∧ acc = (((ps.map (·.1)).take i).map PyData.int).map Sl.d) ⟨rfl, Nat.zero_le _, rfl⟩ ?_ ?_
  · rintro i x acc S hx ⟨rfl, hi, rfl⟩
    obtain ⟨p, hpi, rfl⟩ := get_prT hx
    refine ⟨stays_kp hs (Kp.refl _), ?_⟩
    walk_at "law x"
    refine ⟨rfl, ?_⟩
    walk_at "law x"
    refine ⟨by rw [len_ints, List.length_take, List.length_map]; exact sz_lt (by omega), rfl, (List.getElem?_eq_some_iff.mp hpi).1, ints_snoc (fst_get hpi)⟩
  · rintro acc S ⟨rfl, hi, rfl⟩
    rw [len_prT, List.take_of_length_le (by rw [List.length_map]; exact Nat.le_refl _)]
    refine ⟨stays_kp hs (Kp.refl _), .inl ⟨_, rfl, ?_⟩⟩
    obtain ⟨ns, hns⟩ : ∃ ns, ns = ps.map (·.1) := ⟨_, rfl⟩
    rw [← hns] at hp ⊢
    have hnl : ns.length = ps.length := by rw [hns, List.length_map]
    walk_at "law x"
    rw [allD_map]
    walk_at "law x"
    refine ForGo.inv (fun i ρ S' => S' = S ∧ ∃ o3 o4, ρ = [some pts, some (.d (.int qi)), some (.d (.list (ns.map PyData.int))), o3, o4, none, none, none, none, none, none, none]) ⟨rfl, _, _, rfl⟩ ?_ ?_
    · rintro i x ρ S' hx ⟨rfl, o3, o4, rfl⟩
      obtain ⟨d, hd, rfl⟩ := enD_get hx
      obtain ⟨v, hv, rfl⟩ := get_int hd
      refine ⟨trivial, ?_⟩
      walk_at "law x"
      refine ⟨rfl, ?_⟩
      walk_at "law x"
      rw [cut_take, map2_take]
      refine .inl ⟨_, rfl, ?_⟩
      walk_at "law x"
      rw [flat_ints]
      walk_at "law x"
      rw [inV_ints, decide_eq_false (fun z => ?_)]
      · exact ⟨rfl, _, _, rfl⟩
      · obtain ⟨j, hj, ej⟩ := List.mem_take_iff_getElem.mp z
        have := nodup_ne hp.2 (i := j) (j := i) (x := v) (by rw [← ej]; exact List.getElem?_eq_getElem (by omega)) hv
        omega
    · rintro ρ S' ⟨rfl, o3, o4, rfl⟩
      refine ⟨trivial, ?_⟩
      walk_at "law h"
      refine ⟨by decide, .inl ⟨[], rfl, ?_⟩⟩
      walk_at "law x"
      refine ⟨by decide, .inr fun m nm => ?_⟩
      walk_at "law x"
      rw [seq_kp hs ((Kp.refl _).new nm)]
      walk_at "law x"
      refine ForGo.inv (fun j ρ S => ∃ m fs ks o3 o4 o7 o8 o9, S m = some (.l ((ks.map PyData.int).map Sl.d)) ∧ Kp S' S ∧ ρ = [some pts, some (.d (.int qi)), some (.d (.list (ns.map PyData.int))), o3, o4, some (.d (.list (fs.map PyData.int))), some (.o m), o7, o8, o9, none, none] ∧ j ≤ ps.length ∧
          Thru qi (ps.take j) fs ∧ (ks.length = j + 1 ∧ (∀ c ∈ ks, 0 ≤ c ∧ c < qi) ∧ ∀ x, Cg qi (pev ks x) (gapP x (ns.take j)))) ⟨m, [], [1], _, _, _, _, _, sset_same, (Kp.refl _).new nm, rfl, Nat.zero_le _, ⟨rfl, (fun _ z => by cases z), fun _ z => by cases z⟩, rfl, (fun c hc => by rw [List.mem_singleton.mp hc]; omega), fun x => ?_⟩ ?_ ?_
      · show Cg qi (0 * x + 1) 1
        rw [Int.zero_mul]
        exact Cg.refl _ _
      · rintro j x ρ S hx ⟨m, fs, ks, o3, o4, o7, o8, o9, hm, kp, rfl, hj, ht, kl, klow, kg⟩
        obtain ⟨p, hpj, rfl⟩ := get_prT hx
        have hj' := (List.getElem?_eq_some_iff.mp hpj).1
        have hpm := List.mem_of_getElem? hpj
        have hnj : ns[j]? = some p.1 := by rw [hns]; exact fst_get hpj
        have hp1 := hp.1 p.1 (List.mem_of_getElem? hnj)
        have hp2 := hn p hpm
        have hfl : fs.length = j := by rw [ht.num, List.length_take]; omega
        refine ⟨stays_kp hs kp, ?_⟩
        walk_at "law x"
        refine ⟨rfl, ?_⟩
        walk_at "law x"
        refine ⟨fs, p.1, qi, .inr rfl, rfl, rfl, by omega, by omega, ?_⟩
        walk_at "law x"
        refine ⟨by omega, ?_⟩
        walk_at "law x"
        refine ⟨ks, p.1, qi, .inr (lst_s hm), rfl, rfl, by omega, by omega, ?_⟩
        have hkb : 0 ≤ pev ks p.1 % qi ∧ pev ks p.1 % qi < qi := ⟨Int.emod_nonneg _ (by omega), Int.emod_lt_of_pos _ (by omega)⟩
        have hk0 : ¬ Cg qi (pev ks p.1 % qi) 0 := fun z => gap_last hq hp hnj ((kg p.1).symm.trans ((Cg.mod qi _).symm.trans z))
        have hk1 : pev ks p.1 % qi ≠ 0 := fun z => hk0 (by rw [z]; exact Cg.refl _ _)
        refine ⟨_, qi, rfl, rfl, hq, by omega, hkb.2, fun b b0 b1 be => ?_⟩
        walk_at "law x"
        refine ⟨cm_r ⟨by omega, by omega⟩, ?_⟩
        walk_at "law x"
        refine ⟨by omega, ?_⟩
        obtain ⟨g, hg⟩ : ∃ g, g = (p.2 - pev fs p.1 % qi) % qi := ⟨_, rfl⟩
        try dsimp only
        rw [← hg]
        have hgb : 0 ≤ g ∧ g < qi := by rw [hg]; exact ⟨Int.emod_nonneg _ (by omega), Int.emod_lt_of_pos _ (by omega)⟩
        obtain ⟨t, htt⟩ : ∃ t, t = g * b % qi := ⟨_, rfl⟩
        try dsimp only
        rw [← htt]
        have htb : 0 ≤ t ∧ t < qi := by rw [htt]; exact ⟨Int.emod_nonneg _ (by omega), Int.emod_lt_of_pos _ (by omega)⟩
        walk_at "law x"
        refine ⟨by decide, .inl ⟨[.int 0], rfl, ?_⟩⟩
        walk_at "law x"
        refine ⟨by rw [len_ints]; show _ + 1 ≤ _; exact sz_le (by omega), .inl ⟨(fs ++ [0]).map PyData.int, by rw [← ints_app]; rfl, ?_⟩⟩
        walk_at "law x"
        rw [seq_s hm]
        walk_at "law x"
        rw [allD_map, allD_map]
        walk_at "law x"
        refine ⟨fun _ => by rw [List.length_map, List.length_map, kl, List.length_append, hfl]; rfl, LcGo.inv (fun i acc S2 => S2 = S ∧ i ≤ j + 1 ∧ acc = (((addT qi t fs ks).take i).map PyData.int).map Sl.d) ⟨rfl, Nat.zero_le _, rfl⟩ ?_ ?_⟩
        · rintro i x acc S2 hx ⟨rfl, hi, rfl⟩
          obtain ⟨u, v, hu, hv, rfl⟩ := get_zip hx
          refine ⟨⟨trivial, hm⟩, ?_⟩
          walk_at "law x"
          refine ⟨rfl, ?_⟩
          walk_at "law x"
          refine ⟨cm_l ⟨by omega, by omega⟩, ?_⟩
          walk_at "law x"
          refine ⟨by omega, by rw [len_ints, List.length_take]; exact sz_lt (by omega), rfl, by have := (List.getElem?_eq_some_iff.mp hv).1; omega, ints_snoc ?_⟩
          unfold addT
          rw [List.getElem?_zipWith, hu, hv]
        · rintro acc S2 ⟨rfl, hi, rfl⟩
          have el : (List.zipWith prD ((fs ++ [0]).map PyData.int) (ks.map PyData.int)).length = j + 1 := by rw [List.length_zipWith, List.length_map, List.length_map, kl, List.length_append, hfl]; exact Nat.min_self _
          rw [el, List.take_of_length_le (by rw [addT_len (by omega)]; omega)]
          refine ⟨⟨trivial, hm⟩, .inl ⟨_, rfl, ?_⟩⟩
          walk_at "law x"
          refine ⟨ks, p.1, qi, lst_s hm, rfl, rfl, by omega, ⟨by omega, by omega⟩, by omega, fun m2 nm2 => ?_⟩
          have etn : ns.take (j + 1) = ns.take j ++ [p.1] := by rw [List.take_add_one, hnj]; rfl
          have etp : ps.take (j + 1) = ps.take j ++ [p] := by rw [List.take_add_one, hpj]; rfl
          have hT : Thru qi (ps.take (j + 1)) (addT qi t fs ks) := by
            refine ⟨by rw [addT_len (by omega), hfl, List.length_take]; omega, addT_low (by omega), fun r hr => ?_⟩
            have hv := addT_pev (q := qi) (t := t) (x := r.1) (fs := fs) (ks := ks) (by omega)
            rw [etp] at hr
            rcases List.mem_append.mp hr with hr | hr
            · have h0 : Cg qi (pev ks r.1) 0 := (kg r.1).trans (gap_has (by rw [hns, ← List.map_take]; exact List.mem_map_of_mem hr))
              have h1 := (ht.has r hr).add ((Cg.refl qi t).mul h0)
              rw [Int.mul_zero, Int.add_zero] at h1
              exact hv.trans h1
            · rw [List.mem_singleton.mp hr] at hv ⊢
              have h1 : Cg qi (pev ks p.1 * b) 1 := ((Cg.mod qi (pev ks p.1)).symm.mul (Cg.refl qi b)).trans (Cg.iff.mpr (be.trans (Int.emod_eq_of_lt (by decide) (by omega)).symm))
              have h2 : Cg qi (t * pev ks p.1) (g * b * pev ks p.1) := by rw [htt]; exact (Cg.mod qi (g * b)).mul (Cg.refl qi _)
              have e3 : g * b * pev ks p.1 = g * (pev ks p.1 * b) := by grind
              rw [e3] at h2
              have h3 : Cg qi g (p.2 - pev fs p.1) := by rw [hg]; exact (Cg.mod qi _).trans ((Cg.refl qi _).sub (Cg.mod qi _))
              have h4 := h2.trans (h3.mul h1)
              rw [Int.mul_one] at h4
              have h5 := (Cg.refl qi (pev fs p.1)).add h4
              have e6 : pev fs p.1 + (p.2 - pev fs p.1) = p.2 := by omega
              rw [e6] at h5
              exact hv.trans h5
          refine ⟨m2, addT qi t fs ks, wn qi p.1 0 ks, _, _, _, _, _, sset_same, kp.new nm2, rfl, hj', hT, by rw [wn_len, kl], wn_low (by omega) 0 ks ⟨Int.le_refl 0, by omega⟩ klow, fun x => ?_⟩
          have hw := wn_pev (q := qi) (a := p.1) (x := x) 0 ks
          have e1 : pev (0 :: ks) x - p.1 * pev ks x = pev ks x * (x - p.1) := by
            rw [pev_cons]
            grind
          rw [e1] at hw
          rw [etn, gap_app]
          exact hw.trans ((kg x).mul (Cg.refl qi _))
      · rintro ρ S ⟨m, fs, ks, o3, o4, o7, o8, o9, hm, kp, rfl, hj, ht, kl, klow, kg⟩
        refine ⟨stays_kp hs kp, ?_⟩
        rw [len_prT, List.take_of_length_le (Nat.le_refl _)] at ht
        walk_at "law h"
        rw [allD_map]
        exact h fs S ht kp

/-! ### the weights find the lowest number -/
def sumTo (s : Nat → Int) : Nat → Int
  | 0 => 0
  | m + 1 => sumTo s m + s m
theorem sum_cg {q : Int} {s t : Nat → Int} : ∀ {m : Nat}, (∀ i, i < m → Cg q (s i) (t i)) → Cg q (sumTo s m) (sumTo t m)
  | 0, _ => Cg.refl _ _
  | m + 1, h => (sum_cg fun i hi => h i (Nat.lt_succ_of_lt hi)).add (h m (Nat.lt_succ_self m))
theorem sum_none {q : Int} {s : Nat → Int} : ∀ {m : Nat}, (∀ i, i < m → Cg q (s i) 0) → Cg q (sumTo s m) 0
  | 0, _ => Cg.refl _ _
  | m + 1, h => by
    have := (sum_none fun i hi => h i (Nat.lt_succ_of_lt hi)).add (h m (Nat.lt_succ_self m))
    rwa [Int.add_zero] at this
theorem sum_pick {q : Int} {s : Nat → Int} {k : Nat} : ∀ {m : Nat}, k < m → (∀ i, i < m → i ≠ k → Cg q (s i) 0) → Cg q (sumTo s m) (s k)
  | 0, h, _ => by cases h
  | m + 1, h, z => by
    by_cases e : k = m
    · subst e
      have := (sum_none (s := s) fun i hi => z i (Nat.lt_succ_of_lt hi) (Nat.ne_of_lt hi)).add (Cg.refl q (s k))
      rwa [Int.zero_add] at this
    · have := (sum_pick (m := m) (by omega) fun i hi => z i (Nat.lt_succ_of_lt hi)).add (z m (Nat.lt_succ_self m) fun x => e x.symm)
      rwa [Int.add_zero] at this
def scL (c : Int) (p : List Int) : List Int := p.map (c * ·)
theorem scL_pev (c : Int) : ∀ (p : List Int) (x : Int), pev (scL c p) x = c * pev p x
  | [], x => by
    show 0 = c * 0
    rw [Int.mul_zero]
  | n :: r, x => by
    have ih := scL_pev c r x
    show pev (scL c r) x * x + c * n = c * (pev r x * x + n)
    rw [ih]
    grind
/-- curves added, each so many times -/
def mixL (t : Nat → Int) (G : Nat → List Int) : Nat → List Int
  | 0 => []
  | m + 1 => subL (mixL t G m) (scL (-(t m)) (G m))
theorem mixL_pev (t : Nat → Int) (G : Nat → List Int) (x : Int) : ∀ m, pev (mixL t G m) x = sumTo (fun i => t i * pev (G i) x) m
  | 0 => rfl
  | m + 1 => by
    have ih := mixL_pev t G x m
    rw [mixL, subL_pev, scL_pev, ih, sumTo]
    grind
theorem mixL_len {t : Nat → Int} {G : Nat → List Int} {n : Nat} : ∀ {m : Nat}, (∀ i, i < m → (G i).length ≤ n) → (mixL t G m).length ≤ n
  | 0, _ => Nat.zero_le _
  | m + 1, h => by
    have ih := mixL_len (t := t) (m := m) fun i hi => h i (Nat.lt_succ_of_lt hi)
    have := h m (Nat.lt_succ_self m)
    rw [mixL, subL_len]
    unfold scL
    rw [List.length_map]
    omega
/-- the curve that is nought at these places -/
def nilAt : List Int → List Int
  | [] => [1]
  | n :: r => subL (0 :: nilAt r) (scL n (nilAt r))
theorem nilAt_len : ∀ ms : List Int, (nilAt ms).length = ms.length + 1
  | [] => rfl
  | n :: r => by
    rw [nilAt, subL_len]
    unfold scL
    rw [List.length_map, List.length_cons, nilAt_len r, List.length_cons]
    omega
theorem gap_cons (x n : Int) (r : List Int) : gapP x (n :: r) = (x - n) * gapP x r := by
  have e := gap_perm (x := x) (List.perm_append_singleton n r)
  rw [gap_app] at e
  rw [← e, Int.mul_comm]
theorem nilAt_pev (x : Int) : ∀ ms : List Int, pev (nilAt ms) x = gapP x ms
  | [] => by
    show 0 * x + 1 = 1
    rw [Int.zero_mul, Int.zero_add]
  | n :: r => by
    have ih := nilAt_pev x r
    rw [nilAt, subL_pev, scL_pev, pev_cons, ih, gap_cons]
    grind
theorem off_has {ns : List Int} {i k : Nat} {n : Int} (h : ns[k]? = some n) (hik : k ≠ i) : n ∈ offAt ns i := by
  unfold offAt
  obtain ⟨hl, rfl⟩ := List.getElem?_eq_some_iff.mp h
  by_cases hk : k < i
  · exact List.mem_append_left _ (List.mem_take_iff_getElem.mpr ⟨k, by omega, rfl⟩)
  · refine List.mem_append_right _ (List.mem_iff_getElem.mpr ⟨k - (i + 1), by rw [List.length_drop]; omega, ?_⟩)
    rw [List.getElem_drop]
    congr 1
    omega
theorem off_len {ns : List Int} {i : Nat} (h : i < ns.length) : (offAt ns i).length + 1 = ns.length := by
  unfold offAt
  rw [List.length_append, List.length_take, List.length_drop]
  omega
theorem sum_list {T : List Int} {f : Nat → Int} (h : ∀ i, i < T.length → T[i]? = some (f i)) : T.sum = sumTo f T.length := by
  have key : ∀ m, m ≤ T.length → (T.take m).sum = sumTo f m := by
    intro m
    induction m with
    | zero => intro _; rfl
    | succ m ih =>
      intro hm
      rw [List.take_add_one, h m (by omega), List.sum_append, ih (by omega), Option.toList_some, List.sum_singleton]
      rfl
  have := key T.length (Nat.le_refl _)
  rwa [List.take_length] at this

/-! ### the worth anywhere, by worths at places -/
def oth (ns : List Int) (a : Int) : List Int := ns.filter fun m => decide (m ≠ a)
theorem oth_len {ns : List Int} {a : Int} (h : a ∈ ns) : (oth ns a).length + 1 ≤ ns.length := by
  unfold oth
  have := List.length_filter_lt_length_iff_exists (l := ns) (p := fun m => decide (m ≠ a))
  have h2 := this.mpr ⟨a, h, by simp⟩
  omega
theorem oth_ne {q : Int} (hq : q ∈ nine) {ns : List Int} (hp : PlacesL q ns) {a : Int} (h : a ∈ ns) : ¬ Cg q (gapP a (oth ns a)) 0 := by
  refine gap_ne hq _ fun n hn => ?_
  unfold oth at hn
  have h1 := List.mem_filter.mp hn
  have h2 : n ≠ a := of_decide_eq_true h1.2
  exact cg_ne (hp.1 a h).1 (hp.1 a h).2 (hp.1 n h1.1).1 (hp.1 n h1.1).2 fun z => h2 z.symm
theorem oth_has {ns : List Int} {a b : Int} (h : b ∈ ns) (hne : b ≠ a) : b ∈ oth ns a := by
  unfold oth
  exact List.mem_filter.mpr ⟨h, decide_eq_true hne⟩
theorem getD_of {ns : List Int} {i : Nat} (h : i < ns.length) : ns[i]? = some (ns.getD i 0) := by
  rw [List.getD_eq_getElem?_getD, List.getElem?_eq_getElem h]
  rfl
/-- a curve with given worths at places -/
theorem mix_ex {q : Int} (hq : q ∈ nine) {ns : List Int} (hp : PlacesL q ns) (y : Int → Int) : ∃ (L : List Int) (c : Int → Int), L.length ≤ ns.length ∧ (∀ n ∈ ns, Cg q (gapP n (oth ns n) * c n) 1) ∧ (∀ x, pev L x = sumTo (fun i => y (ns.getD i 0) * c (ns.getD i 0) * gapP x (oth ns (ns.getD i 0))) ns.length) ∧ ∀ n ∈ ns, Cg q (pev L n) (y n) := by
  have inv : ∀ n, ∃ b, n ∈ ns → Cg q (gapP n (oth ns n) * b) 1 := fun n => by
    by_cases hn : n ∈ ns
    · obtain ⟨b, hb⟩ := cg_inv hq (oth_ne hq hp hn)
      exact ⟨b, fun _ => hb⟩
    · exact ⟨0, fun z => absurd z hn⟩
  obtain ⟨c, hc⟩ := Classical.skolem.mp inv
  have hx : ∀ x, pev (mixL (fun i => y (ns.getD i 0) * c (ns.getD i 0)) (fun i => nilAt (oth ns (ns.getD i 0))) ns.length) x = sumTo (fun i => y (ns.getD i 0) * c (ns.getD i 0) * gapP x (oth ns (ns.getD i 0))) ns.length := fun x => by
    rw [mixL_pev]
    congr 1
    funext i
    rw [nilAt_pev]
  refine ⟨_, c, mixL_len fun i hi => ?_, hc, hx, fun n hn => ?_⟩
  · rw [nilAt_len]
    exact oth_len (List.mem_of_getElem? (getD_of hi))
  · obtain ⟨k, hk⟩ := List.mem_iff_getElem?.mp hn
    have hkl := (List.getElem?_eq_some_iff.mp hk).1
    have ek : ns.getD k 0 = n := Option.some.inj ((getD_of hkl).symm.trans hk)
    rw [hx]
    refine (sum_pick hkl fun i hi hik => ?_).trans ?_
    · have hne : n ≠ ns.getD i 0 := fun z => hik (nodup_ne hp.2 (getD_of hi) (z ▸ hk))
      have := (Cg.refl q (y (ns.getD i 0) * c (ns.getD i 0))).mul (gap_has (q := q) (oth_has hn hne))
      rwa [Int.mul_zero] at this
    · have h2 := (Cg.refl q (y n)).mul (hc n hn)
      rw [Int.mul_one] at h2
      rw [ek]
      have e : y n * c n * gapP n (oth ns n) = y n * (gapP n (oth ns n) * c n) := by grind
      rw [e]
      exact h2
theorem lagr {q : Int} (hq : q ∈ nine) {ns cs : List Int} (x : Int) (hp : PlacesL q ns) (hc : cs.length ≤ ns.length) {v : Nat → Int} (hv : ∀ i n, ns[i]? = some n → Cg q (v i * gapP n (oth ns n)) (pev cs n * gapP x (oth ns n))) :
    Cg q (sumTo v ns.length) (pev cs x) := by
  obtain ⟨L, c, hl, h1, h2, h3⟩ := mix_ex hq hp (pev cs)
  have h0 := curves_cg hq (uneq_places hp) hl hc h3 x
  refine Cg.trans (sum_cg fun i hi => ?_) (by rw [← h2]; exact h0)
  have hn := getD_of hi
  have hw := hv i _ hn
  obtain ⟨n, en⟩ : ∃ n, n = ns.getD i 0 := ⟨_, rfl⟩
  rw [← en] at hn hw ⊢
  have g1 := h1 n (List.mem_of_getElem? hn)
  have a1 := (Cg.refl q (v i)).mul g1
  rw [Int.mul_one] at a1
  have a2 := hw.mul (Cg.refl q (c n))
  have e1 : v i * (gapP n (oth ns n) * c n) = v i * gapP n (oth ns n) * c n := by grind
  rw [e1] at a1
  have e2 : pev cs n * gapP x (oth ns n) * c n = pev cs n * c n * gapP x (oth ns n) := by grind
  rw [e2] at a2
  exact a1.symm.trans a2
theorem pev_pad (l : List Int) (n : Nat) (x : Int) : pev (l ++ List.replicate n 0) x = pev l x := by
  induction l with
  | nil =>
    induction n with
    | zero => rfl
    | succ n ih =>
      rw [List.replicate_succ]
      show pev (List.replicate n 0) x * x + 0 = 0
      have ih' : pev (List.replicate n 0) x = 0 := by simpa [pev] using ih
      rw [ih']
      omega
  | cons a r ih =>
    rw [List.cons_append, pev_cons, pev_cons, ih]
theorem pev_modq (q : Int) (c : List Int) (x : Int) : Cg q (pev (c.map (· % q)) x) (pev c x) := by
  induction c with
  | nil => exact Cg.refl _ _
  | cons a r ih =>
    rw [List.map_cons, pev_cons, pev_cons]
    exact (ih.mul (Cg.refl q x)).add (Cg.mod q a)
/-- there is a curve through any points of unlike places -/
theorem thru_ex {q : Int} (hq : q ∈ nine) {ps : List (Int × Int)} (hp : PlacesL q (ps.map (·.1))) : ∃ cs, Thru q ps cs := by
  have hq5 := nine_le hq
  have yex : ∃ y : Int → Int, ∀ p ∈ ps, y p.1 = p.2 := by
    refine ⟨fun a => ((ps.find? fun p => decide (p.1 = a)).map (·.2)).getD 0, fun p hp' => ?_⟩
    show ((ps.find? fun r => decide (r.1 = p.1)).map (·.2)).getD 0 = p.2
    cases e : ps.find? fun r => decide (r.1 = p.1) with
    | none =>
      have := List.find?_eq_none.mp e p hp'
      simp at this
    | some r =>
      have h1 := List.find?_some e
      have h2 := List.mem_of_find?_eq_some e
      have h3 : r.1 = p.1 := of_decide_eq_true h1
      obtain ⟨i, hi⟩ := List.mem_iff_getElem?.mp h2
      obtain ⟨j, hj⟩ := List.mem_iff_getElem?.mp hp'
      have hij := nodup_ne hp.2 (i := i) (j := j) (x := p.1) (by rw [List.getElem?_map, hi, ← h3]; rfl) (by rw [List.getElem?_map, hj]; rfl)
      subst hij
      rw [hi] at hj
      cases hj
      rfl
  obtain ⟨y, hy⟩ := yex
  obtain ⟨L, c, hl, _, _, h3⟩ := mix_ex hq hp y
  rw [List.length_map] at hl
  refine ⟨(L ++ List.replicate (ps.length - L.length) 0).map (· % q), by rw [List.length_map, List.length_append, List.length_replicate]; omega, fun c hc => ?_, fun p hp' => ?_⟩
  · obtain ⟨a, _, rfl⟩ := List.mem_map.mp hc
    exact ⟨Int.emod_nonneg _ (by omega), Int.emod_lt_of_pos _ (by omega)⟩
  · refine (pev_modq q _ _).trans ?_
    rw [pev_pad]
    have := h3 p.1 (List.mem_map_of_mem hp')
    rwa [hy p hp'] at this

def wp_law_turned : DWP := wp2 fun n q st k _ => ∃ ni qi : Int, n = .d (.int ni) ∧ q = .d (.int qi) ∧ qi ∈ nine ∧ 0 < ni ∧ ni < qi ∧ ∀ b, 0 < b → b < qi → ni * b % qi = 1 → k (.d (.int b)) st
def t_law_turned : DTS := (dRet (dOp fIx (dLc (iRg2 (dCons (dC (.int 1)) (dCons (dVar 1) dNil))) (gN 2) (dB (dOp (fEq false) (dOp fMod (dOp fMul (dVar 2) (dVar 0)) (dVar 1)) (dC (.int 1)))) (dVar 2) [2]) (dC (.int 0))))
theorem pure_law_turned : ∀ xs s k ke, wp_law_turned xs s k ke → t_law_turned { nx := fun _ s' => k (.d .none) s', rt := k } (startD ["_law_amount", "_law_prime", "_law_one"] xs) s := by
  intro xs st k ke h
  obtain ⟨n, q, rfl, ni, qi, rfl, rfl, hq, n0, n1, h⟩ := wp2_of h
  have hq5 := nine_le hq
  walk_at "law g"
  refine LcGo.some (List.range (qi - 1).toNat) (fun i => .d (.int (1 + (i : Nat)))) (fun (i : Nat) => if (1 + (i : Int)) * ni % qi = 1 then some (PyData.int (1 + (i : Nat))) else none) rfl (by walk_at "law c") trivial ?_ ?_
  · intro i hi N P hN hP
    have hi' := List.mem_range.mp hi
    walk_at "law g"
    cases c : decide ((1 + (i : Int)) * ni % qi = 1) with
    | false => exact hN (if_neg (of_decide_eq_false c))
    | true => exact hP _ (if_pos (of_decide_eq_true c))
  · walk_at "law x"
    obtain ⟨b, b0, b1, be⟩ := nine_inv hq n0 n1
    have hm : PyData.int b ∈ (List.range (qi - 1).toNat).filterMap (fun (i : Nat) => if (1 + (i : Int)) * ni % qi = 1 then some (PyData.int (1 + (i : Nat))) else none) := by
      refine List.mem_filterMap.mpr ⟨(b - 1).toNat, List.mem_range.mpr (by omega), ?_⟩
      rw [show (1 : Int) + ((b - 1).toNat : Nat) = b by omega, if_pos (by rw [Int.mul_comm]; exact be)]
    cases e : (List.range (qi - 1).toNat).filterMap (fun (i : Nat) => if (1 + (i : Int)) * ni % qi = 1 then some (PyData.int (1 + (i : Nat))) else none) with
    | nil =>
      rw [e] at hm
      cases hm
    | cons d r =>
      have hd : d ∈ (List.range (qi - 1).toNat).filterMap (fun (i : Nat) => if (1 + (i : Int)) * ni % qi = 1 then some (PyData.int (1 + (i : Nat))) else none) := by rw [e]; exact List.mem_cons_self
      obtain ⟨i, hi, hd⟩ := List.mem_filterMap.mp hd
      have hi' := List.mem_range.mp hi
      split at hd
      · next hc =>
        cases hd
        rw [List.map_cons, at0]
        exact h _ (by omega) (by omega) (by rw [Int.mul_comm]; exact hc)
      · cases hd
/-- the worth of the curve through points, at x -/
def wp_law_at : DWP := wp3 fun c x q st k _ => ∃ (ps : List (Int × Int)) (xi qi : Int) (cs : List Int), seqOf st c = some ((ps.map prT).map Sl.d) ∧ stays c ((ps.map prT).map Sl.d) st ∧ x = .d (.int xi) ∧ q = .d (.int qi) ∧ qi ∈ nine ∧ (-(2 ^ 40) < xi ∧ xi < 2 ^ 40) ∧ PlacesL qi (ps.map (·.1)) ∧ (∀ p ∈ ps, 0 ≤ p.2 ∧ p.2 < qi) ∧ Thru qi ps cs ∧ k (.d (.int (pev cs xi % qi))) st
def r_law_at_0 : DTS := (dRet (dOp fMod (dVar 3) (dVar 2)))
def r_law_at_1 : DTS := (dAsg (dOp fAdd (dVar 3) (dVar 6)) (gN 3))
def b_law_at_0 : DTS := (dIfS (dB (dOp (fEq true) (dVar 7) (dVar 4))) (dAsg (dOp fMod (dOp fMul (dOp fMul (dVar 6) (dOp fSub (dVar 1) (dVar 7))) (dCall wp_law_turned [] (fun _ _ => False) (dCons (dOp fMod (dOp fSub (dVar 4) (dVar 7)) (dVar 2)) (dCons (dVar 2) dNil)))) (dVar 2)) (gN 6)) dNext)
theorem fl_law_at_0 {α : Type} {L : List α} {e : α → Sl} {D : DEnds} {xs : List Sl} {stay : Store → Prop} {st : Store} {v_points v_x v_prime v_found v_place v_amount v_part v_other v_much : Option Sl} (hL : xs = L.map e) (I : List α → Option Sl → Store → Prop) (h0 : I [] v_part st)
    (hs : ∀ d a r (v_part' v_other' v_much' : Option Sl) S, L = d ++ a :: r → I d v_part' S → stay S ∧ (gTp 2 (gCn (gN 7) (gCn (gN 8) gNl))) (e a) [v_points, v_x, v_prime, v_found, v_place, v_amount, v_part', v_other', v_much'] S fun ρ1 S1 => b_law_at_0 { D with nx := fun ρ' S' => ∃ v_part'' v_other'' v_much'', ρ' = [v_points, v_x, v_prime, v_found, v_place, v_amount, v_part'', v_other'', v_much''] ∧ I (d ++ [a]) v_part'' S', ct := fun ρ' S' => ∃ v_part'' v_other'' v_much'', ρ' = [v_points, v_x, v_prime, v_found, v_place, v_amount, v_part'', v_other'', v_much''] ∧ I (d ++ [a]) v_part'' S', bk := D.nx } ρ1 S1)
    (hd : ∀ (v_part' v_other' v_much' : Option Sl) S, I L v_part' S → stay S ∧ D.nx [v_points, v_x, v_prime, v_found, v_place, v_amount, v_part', v_other', v_much'] S) : ForGo (gTp 2 (gCn (gN 7) (gCn (gN 8) gNl))) b_law_at_0 D xs stay [v_points, v_x, v_prime, v_found, v_place, v_amount, v_part, v_other, v_much] st :=
  ForGo.done L e hL (fun d ρ S => ∃ v_part' v_other' v_much', ρ = [v_points, v_x, v_prime, v_found, v_place, v_amount, v_part', v_other', v_much'] ∧ I d v_part' S) ⟨_, _, _, rfl, h0⟩ (fun d a r ρ S hL ⟨v_part', v_other', v_much', eρ, hi⟩ => by subst eρ; exact hs d a r v_part' v_other' v_much' S hL hi) fun ρ S ⟨v_part', v_other', v_much', eρ, hi⟩ => by subst eρ; exact hd v_part' v_other' v_much' S hi
def b_law_at_1 : DTS := (dSeq (dAsg (dVar 5) (gN 6))
  (dSeq (dFor (iSq (dVar 0)) (gTp 2 (gCn (gN 7) (gCn (gN 8) gNl))) b_law_at_0)
  (hold r_law_at_1)))
theorem fl_law_at_1 {α : Type} {L : List α} {e : α → Sl} {D : DEnds} {xs : List Sl} {stay : Store → Prop} {st : Store} {v_points v_x v_prime v_found v_place v_amount v_part v_other v_much : Option Sl} (hL : xs = L.map e) (I : List α → Option Sl → Store → Prop) (h0 : I [] v_found st)
    (hs : ∀ d a r (v_found' v_place' v_amount' v_part' v_other' v_much' : Option Sl) S, L = d ++ a :: r → I d v_found' S → stay S ∧ (gTp 2 (gCn (gN 4) (gCn (gN 5) gNl))) (e a) [v_points, v_x, v_prime, v_found', v_place', v_amount', v_part', v_other', v_much'] S fun ρ1 S1 => b_law_at_1 { D with nx := fun ρ' S' => ∃ v_found'' v_place'' v_amount'' v_part'' v_other'' v_much'', ρ' = [v_points, v_x, v_prime, v_found'', v_place'', v_amount'', v_part'', v_other'', v_much''] ∧ I (d ++ [a]) v_found'' S', ct := fun ρ' S' => ∃ v_found'' v_place'' v_amount'' v_part'' v_other'' v_much'', ρ' = [v_points, v_x, v_prime, v_found'', v_place'', v_amount'', v_part'', v_other'', v_much''] ∧ I (d ++ [a]) v_found'' S', bk := D.nx } ρ1 S1)
    (hd : ∀ (v_found' v_place' v_amount' v_part' v_other' v_much' : Option Sl) S, I L v_found' S → stay S ∧ D.nx [v_points, v_x, v_prime, v_found', v_place', v_amount', v_part', v_other', v_much'] S) : ForGo (gTp 2 (gCn (gN 4) (gCn (gN 5) gNl))) b_law_at_1 D xs stay [v_points, v_x, v_prime, v_found, v_place, v_amount, v_part, v_other, v_much] st :=
  ForGo.done L e hL (fun d ρ S => ∃ v_found' v_place' v_amount' v_part' v_other' v_much', ρ = [v_points, v_x, v_prime, v_found', v_place', v_amount', v_part', v_other', v_much'] ∧ I d v_found' S) ⟨_, _, _, _, _, _, rfl, h0⟩ (fun d a r ρ S hL ⟨v_found', v_place', v_amount', v_part', v_other', v_much', eρ, hi⟩ => by subst eρ; exact hs d a r v_found' v_place' v_amount' v_part' v_other' v_much' S hL hi) fun ρ S ⟨v_found', v_place', v_amount', v_part', v_other', v_much', eρ, hi⟩ => by subst eρ; exact hd v_found' v_place' v_amount' v_part' v_other' v_much' S hi
def t_law_at : DTS := (dSeq (dAsg (dC (.int 0)) (gN 3))
  (dSeq (dFor (iSq (dVar 0)) (gTp 2 (gCn (gN 4) (gCn (gN 5) gNl))) b_law_at_1)
  (hold r_law_at_0)))
theorem oth_snoc_ne {ns : List Int} {a b : Int} (h : b ≠ a) : oth (ns ++ [b]) a = oth ns a ++ [b] := by
  unfold oth
  rw [List.filter_append, List.filter_cons_of_pos (by simpa using h), List.filter_nil]
theorem oth_snoc_eq {ns : List Int} {a : Int} : oth (ns ++ [a]) a = oth ns a := by
  unfold oth
  rw [List.filter_append, List.filter_cons_of_neg (by simp), List.filter_nil, List.append_nil]
theorem pure_law_at : ∀ xs s k ke, wp_law_at xs s k ke → t_law_at { nx := fun _ s' => k (.d .none) s', rt := k } (startD ["_law_points", "_law_x", "_law_prime", "_law_found", "_law_place", "_law_amount", "_law_part", "_law_other", "_law_much"] xs) s := by
  intro xs st k ke h
  obtain ⟨c, x, q, rfl, ps, xi, qi, cs, hs, hst, rfl, rfl, hq, hx, hp, hy, ht, h⟩ := wp3_of h
  have hq5 := nine_le hq
  walk_at "law x"
  rw [hs]
  walk_at "law x"
  refine fl_law_at_1 (L := ps) (e := fun p => .d (prT p)) (by rw [List.map_map]; rfl) (fun d f S => S = st ∧ ∃ vs : List Int, f = some (.d (.int vs.sum)) ∧ vs.length = d.length ∧ ∀ (i : Nat) (p : Int × Int), d[i]? = some p → Cg qi (vs.getD i 0 * gapP p.1 (oth (ps.map (·.1)) p.1)) (p.2 * gapP xi (oth (ps.map (·.1)) p.1))) ⟨rfl, [], rfl, rfl, fun i p z => by cases z⟩ ?_ ?_
  · rintro d p r m1 m2 m3 m4 m5 m6 S hL ⟨rfl, vs, rfl, hl, hv⟩
    have hpm : p ∈ ps := by rw [hL]; simp
    have hpb := hp.1 p.1 (List.mem_map_of_mem hpm)
    have hyb := hy p hpm
    refine ⟨hst, ?_⟩
    walk_at "law g"
    rw [hs]
    walk_at "law x"
    refine fl_law_at_0 (L := ps) (e := fun p => .d (prT p)) (by rw [List.map_map]; rfl) (fun d f S' => S' = S ∧ ∃ w : Int, f = some (.d (.int w)) ∧ (0 ≤ w ∧ w < qi) ∧ Cg qi (w * gapP p.1 (oth (d.map (·.1)) p.1)) (p.2 * gapP xi (oth (d.map (·.1)) p.1))) ⟨rfl, _, rfl, hyb, Cg.refl _ _⟩ ?_ ?_
    · rintro d' o r' n1 n2 n3 S' hL' ⟨rfl, w, rfl, hw, hc⟩
      have hom : o ∈ ps := by rw [hL']; simp
      have hob := hp.1 o.1 (List.mem_map_of_mem hom)
      refine ⟨hst, ?_⟩
      walk_at "law g"
      by_cases e : o.1 = p.1
      · rw [decide_eq_true e]
        refine ⟨_, _, _, rfl, rfl, w, rfl, hw, ?_⟩
        rw [List.map_append, show [o].map (·.1) = [p.1] by rw [← e]; rfl, oth_snoc_eq]
        exact hc
      · rw [decide_eq_false e]
        walk_at "law g"
        have hm0 : 0 ≤ (p.1 - o.1) % qi ∧ (p.1 - o.1) % qi < qi := ⟨Int.emod_nonneg _ (by omega), Int.emod_lt_of_pos _ (by omega)⟩
        have hne : (p.1 - o.1) % qi ≠ 0 := fun z => cg_ne hpb.1 hpb.2 hob.1 hob.2 (fun z => e z.symm) (cg_zero.mpr z)
        refine ⟨_, qi, rfl, rfl, hq, by omega, hm0.2, fun b b0 b1 be => ?_⟩
        have hm1 : -(2 ^ 46) < w * (xi - o.1) ∧ w * (xi - o.1) < 2 ^ 46 := by
          constructor
          · have a1 : w * (-2199023255552) ≤ w * (xi - o.1) := Int.mul_le_mul_of_nonneg_left (by omega) hw.1
            omega
          · have a1 : w * (xi - o.1) ≤ w * 2 ^ 41 := Int.mul_le_mul_of_nonneg_left (by omega) hw.1
            omega
        walk_at "law g"
        obtain ⟨w', hw'⟩ : ∃ w', w' = w * (xi - o.1) * b % qi := ⟨_, rfl⟩
        refine ⟨_, _, _, rfl, rfl, w', by rw [hw'], by rw [hw']; exact ⟨Int.emod_nonneg _ (by omega), Int.emod_lt_of_pos _ (by omega)⟩, ?_⟩
        rw [List.map_append, show [o].map (·.1) = [o.1] from rfl, oth_snoc_ne e, gap_app, gap_app]
        have c1 : Cg qi w' (w * (xi - o.1) * b) := by rw [hw']; exact Cg.mod _ _
        have c2 : Cg qi ((p.1 - o.1) * b) 1 := ((Cg.mod qi (p.1 - o.1)).symm.mul (Cg.refl qi b)).trans (Cg.iff.mpr (be.trans (Int.emod_eq_of_lt (by decide) (by omega)).symm))
        have c3 := (c1.mul (Cg.refl qi (gapP p.1 (oth (d'.map (·.1)) p.1) * (p.1 - o.1))))
        have e1 : w * (xi - o.1) * b * (gapP p.1 (oth (d'.map (·.1)) p.1) * (p.1 - o.1)) = w * gapP p.1 (oth (d'.map (·.1)) p.1) * (xi - o.1) * ((p.1 - o.1) * b) := by grind
        rw [e1] at c3
        have c4 := (hc.mul (Cg.refl qi (xi - o.1))).mul c2
        rw [Int.mul_one] at c4
        have e2 : p.2 * gapP xi (oth (d'.map (·.1)) p.1) * (xi - o.1) = p.2 * (gapP xi (oth (d'.map (·.1)) p.1) * (xi - o.1)) := by grind
        rw [e2] at c4
        exact c3.trans c4
    · rintro n1 n2 n3 S' ⟨rfl, w, rfl, hw, hc⟩
      refine ⟨hst, ?_⟩
      walk_at "law h"
      refine ⟨_, _, _, _, _, _, rfl, rfl, vs ++ [w], by rw [List.sum_append]; simp, by rw [List.length_append, List.length_append, hl]; rfl, fun i p' hi => ?_⟩
      by_cases hil : i < d.length
      · rw [List.getElem?_append_left hil] at hi
        have := hv i p' hi
        rwa [List.getD_eq_getElem?_getD, List.getElem?_append_left (by omega), ← List.getD_eq_getElem?_getD]
      · have hlt := (List.getElem?_eq_some_iff.mp hi).1
        rw [List.length_append] at hlt
        have ei : i = d.length := by
          have : [p].length = 1 := rfl
          omega
        subst ei
        rw [List.getElem?_append_right (Nat.le_refl _), Nat.sub_self] at hi
        cases hi
        rw [List.getD_eq_getElem?_getD, List.getElem?_append_right (by omega), hl, Nat.sub_self]
        exact hc
  · rintro m1 m2 m3 m4 m5 m6 S ⟨rfl, vs, rfl, hl, hv⟩
    refine ⟨hst, ?_⟩
    walk_at "law h"
    refine ⟨by omega, ?_⟩
    have e : vs.sum % qi = pev cs xi % qi := by
      refine Cg.iff.mp ?_
      have key := lagr hq (ns := ps.map (·.1)) (cs := cs) xi hp (by rw [List.length_map, ht.num]; exact Nat.le_refl _) (v := fun i => vs.getD i 0) fun i n hi => by
        rw [List.getElem?_map] at hi
        cases ep : ps[i]? with
        | none => rw [ep] at hi; cases hi
        | some p =>
          rw [ep] at hi
          cases hi
          have h1 := hv i p ep
          have h2 := (ht.has p (List.mem_of_getElem? ep)).mul (Cg.refl qi (gapP xi (oth (ps.map (·.1)) p.1)))
          exact h1.trans h2.symm
      rw [List.length_map] at key
      have es := sum_list (T := vs) (f := fun i => vs.getD i 0) fun i hi => getD_of hi
      rw [es, hl]
      exact key
    show k (.d (.int (vs.sum % qi))) _
    rw [e]
    exact h

/-- what a company's hands are dealt of a curve -/
def dealL (q n : Int) (c : List Int) : List Int := (rngI 0 n.toNat).map fun h => pev c (h + 1) % q
theorem dealL_len (q n : Int) (c : List Int) : (dealL q n c).length = n.toNat := by
  unfold dealL rngI
  rw [List.length_map, List.length_map, List.length_range]
theorem dealL_get {q n : Int} {c : List Int} {i : Nat} (h : i < n.toNat) : (dealL q n c)[i]? = some (pev c ((i : Int) + 1) % q) := by
  unfold dealL rngI
  rw [List.getElem?_map, List.getElem?_map, List.getElem?_range h]
  show some (pev c ((0 : Int) + (i : Nat) + 1) % q) = _
  rw [Int.zero_add]
theorem dealL_low {q n : Int} {c : List Int} (h : 0 < q) : ∀ x ∈ dealL q n c, 0 ≤ x ∧ x < q := fun x hx => by
  obtain ⟨i, _, rfl⟩ := List.mem_map.mp hx
  exact ⟨Int.emod_nonneg _ (Int.ne_of_gt h), Int.emod_lt_of_pos _ h⟩
theorem dealL_cg {q n : Int} {a b : List Int} (h : ∀ x, Cg q (pev a x) (pev b x)) : dealL q n a = dealL q n b := by
  unfold dealL
  exact List.map_congr_left fun x _ => Cg.iff.mp (h _)

def wp_law_piece : DWP := wp4 fun a c x q st k _ => ∃ (ai xi qi : Int) (ns : List Int), a = .d (.int ai) ∧ c = .d (.tuple (ns.map PyData.int)) ∧ x = .d (.int xi) ∧ q = .d (.int qi) ∧ 0 < qi ∧ qi < 2 ^ 60 ∧ k (.d (.int (pev (ai :: ns) xi % qi))) st
def r_law_piece_0 : DTS := (dRet (dOp fMod (dOp fAdd (dOp fMul (dVar 4) (dVar 2)) (dVar 0)) (dVar 3)))
def b_law_piece_0 : DTS := (dAsg (dOp fMod (dOp fAdd (dOp fMul (dVar 4) (dVar 2)) (dVar 5)) (dVar 3)) (gN 4))
theorem fl_law_piece_0 {α : Type} {L : List α} {e : α → Sl} {D : DEnds} {xs : List Sl} {stay : Store → Prop} {st : Store} {v_amount v_cash v_place v_prime v_found v_coin : Option Sl} (hL : xs = L.map e) (I : List α → Option Sl → Store → Prop) (h0 : I [] v_found st)
    (hs : ∀ d a r (v_found' v_coin' : Option Sl) S, L = d ++ a :: r → I d v_found' S → stay S ∧ (gN 5) (e a) [v_amount, v_cash, v_place, v_prime, v_found', v_coin'] S fun ρ1 S1 => b_law_piece_0 { D with nx := fun ρ' S' => ∃ v_found'' v_coin'', ρ' = [v_amount, v_cash, v_place, v_prime, v_found'', v_coin''] ∧ I (d ++ [a]) v_found'' S', ct := fun ρ' S' => ∃ v_found'' v_coin'', ρ' = [v_amount, v_cash, v_place, v_prime, v_found'', v_coin''] ∧ I (d ++ [a]) v_found'' S', bk := D.nx } ρ1 S1)
    (hd : ∀ (v_found' v_coin' : Option Sl) S, I L v_found' S → stay S ∧ D.nx [v_amount, v_cash, v_place, v_prime, v_found', v_coin'] S) : ForGo (gN 5) b_law_piece_0 D xs stay [v_amount, v_cash, v_place, v_prime, v_found, v_coin] st :=
  ForGo.done L e hL (fun d ρ S => ∃ v_found' v_coin', ρ = [v_amount, v_cash, v_place, v_prime, v_found', v_coin'] ∧ I d v_found' S) ⟨_, _, rfl, h0⟩ (fun d a r ρ S hL ⟨v_found', v_coin', eρ, hi⟩ => by subst eρ; exact hs d a r v_found' v_coin' S hL hi) fun ρ S ⟨v_found', v_coin', eρ, hi⟩ => by subst eρ; exact hd v_found' v_coin' S hi
def t_law_piece : DTS := (dSeq (dAsg (dC (.int 0)) (gN 4))
  (dSeq (dFor (iSq (dRev (dVar 1))) (gN 5) b_law_piece_0)
  (hold r_law_piece_0)))
theorem pure_law_piece : ∀ xs s k ke, wp_law_piece xs s k ke → t_law_piece { nx := fun _ s' => k (.d .none) s', rt := k } (startD ["_law_amount", "_law_cash", "_law_place", "_law_prime", "_law_found", "_law_coin"] xs) s := by
  intro xs st k ke h
  obtain ⟨a, c, x, q, rfl, ai, xi, qi, ns, rfl, rfl, rfl, rfl, h0, h1, h⟩ := wp4_of h
  walk_at "law x"
  refine fl_law_piece_0 (L := ns.reverse) (e := fun n => .d (.int n)) (by rw [← List.map_reverse, List.map_map]; rfl) (fun d m S => S = st ∧ m = some (.d (.int (d.foldl (fun a n => (a * xi + n) % qi) 0)))) ⟨rfl, rfl⟩ ?_ ?_
  · rintro d n r m1 m2 S hL ⟨rfl, rfl⟩
    have hb := horner_take (l := d) (x := xi) h0 d.length
    rw [List.take_length] at hb
    refine ⟨trivial, ?_⟩
    walk_at "law g"
    refine ⟨_, _, rfl, rfl, ?_⟩
    rw [List.foldl_append]
    rfl
  · rintro m1 m2 S ⟨rfl, rfl⟩
    refine ⟨trivial, ?_⟩
    have hb := horner_take (l := ns.reverse) (x := xi) h0 ns.reverse.length
    rw [List.take_length] at hb
    walk_at "law h"
    walk_at "law g"
    rw [List.foldl_reverse] at hb ⊢
    have e := horner_mod ns xi qi
    rw [Int.zero_emod] at e
    rw [e]
    rw [show (pev ns xi % qi * xi + ai) % qi = pev (ai :: ns) xi % qi from by
      rw [pev_cons]
      exact Cg.iff.mp (((Cg.mod qi _).mul (Cg.refl qi xi)).add (Cg.refl qi ai))]
    exact h
def wp_law_pieces : DWP := wp3 fun c m cs st k _ => ∃ (q n t mi : Int) (ns : List Int), c = .d (coT q n t) ∧ m = .d (.int mi) ∧ cs = .d (.tuple (ns.map PyData.int)) ∧ 0 < q ∧ q < 1000 ∧ 0 ≤ n ∧ n ≤ 1000 ∧ k (.d (.tuple ((dealL q n (mi :: ns)).map PyData.int))) st
def t_law_pieces : DTS := (dRet (dCB fTuple (dCons (dLc (iRg1 (dCons (dOp fIx (dVar 0) (dC (.int 1))) dNil)) (gN 3) dYes (dCall wp_law_piece [] (fun _ _ => False) (dCons (dVar 1) (dCons (dVar 2) (dCons (dOp fAdd (dVar 3) (dC (.int 1))) (dCons (dOp fIx (dVar 0) (dC (.int 0))) dNil))))) [3]) dNil)))
theorem pure_law_pieces : ∀ xs s k ke, wp_law_pieces xs s k ke → t_law_pieces { nx := fun _ s' => k (.d .none) s', rt := k } (startD ["_law_group", "_law_amount", "_law_cash", "_law_hand"] xs) s := by
  intro xs st k ke h
  obtain ⟨c, m, cs, rfl, q, n, t, mi, ns, rfl, rfl, rfl, q0, q1, n0, n1, h⟩ := wp3_of h
  walk_at "law g"
  refine LcGo.map (List.range n.toNat) (fun i => .d (.int (0 + (i : Nat)))) (fun i => .int (pev (mi :: ns) ((0 : Int) + (i : Nat) + 1) % q)) rfl (by walk_at "law c") trivial ?_ ?_
  · intro i hi N P hP
    walk_at "law x"
    exact ⟨mi, _, q, ns, rfl, rfl, rfl, rfl, q0, by omega, hP⟩
  · walk_at "law x"
    rw [allD_map]
    have e : (List.range n.toNat).map (fun i => PyData.int (pev (mi :: ns) ((0 : Int) + (i : Nat) + 1) % q)) = (dealL q n (mi :: ns)).map PyData.int := by
      unfold dealL rngI
      rw [List.map_map, List.map_map]
      rfl
    rw [e]
    exact h

/-- the points of these hands' pieces -/
def hPts (hs ps : List Int) : List (Int × Int) := hs.map fun h => (h + 1, ps.getD h.toNat 0)
theorem hPts_fst (hs ps : List Int) : (hPts hs ps).map (·.1) = hs.map (· + 1) := by
  unfold hPts
  rw [List.map_map]
  rfl
def wp_curve_of : DWP := wp3 fun c hs ps st k _ => ∃ (q n t : Int) (hl pl : List Int), c = .d (coT q n t) ∧ seqOf st hs = some ((hl.map PyData.int).map Sl.d) ∧ ps = .d (.tuple (pl.map PyData.int)) ∧ q ∈ nine ∧ (∀ h ∈ hl, 0 ≤ h ∧ h + 1 < q ∧ h < pl.length) ∧ hl.Nodup ∧ hl.length ≤ 40 ∧ (∀ p ∈ pl, -(2 ^ 60) < p ∧ p < 2 ^ 60) ∧
  ∀ cs S, Thru q (hPts hl pl) cs → Kp st S → k (.d (.tuple (cs.map PyData.int))) S
def t_curve_of : DTS := (dRet (dCall wp_through [] (fun _ _ => False) (dCons (dCB fTuple (dCons (dLc (iSq (dVar 1)) (gN 3) dYes (dTup2 (dCons (dOp fAdd (dVar 3) (dC (.int 1))) (dCons (dOp fIx (dVar 2) (dVar 3)) dNil))) [3]) dNil)) (dCons (dOp fIx (dVar 0) (dC (.int 0))) dNil))))
theorem pure_curve_of : ∀ xs s k ke, wp_curve_of xs s k ke → t_curve_of { nx := fun _ s' => k (.d .none) s', rt := k } (startD ["company", "hands", "pieces", "hand"] xs) s := by
  intro xs st k ke h
  obtain ⟨c, hs, ps, rfl, q, n, t, hl, pl, rfl, hS, rfl, hq, hb, hnd, hlen, hpl, h⟩ := wp3_of h
  have hq5 := nine_le hq
  walk_at "law x"
  rw [hS]
  walk_at "law x"
  refine LcGo.inv (fun i acc S => S = st ∧ i ≤ hl.length ∧ acc = (((hPts hl pl).take i).map prT).map Sl.d) ⟨rfl, Nat.zero_le _, rfl⟩ ?_ ?_
  · rintro i x acc S hx ⟨rfl, hi, rfl⟩
    obtain ⟨m, hm, rfl⟩ := get_ints hx
    have hi' := (List.getElem?_eq_some_iff.mp hm).1
    have hmb := hb m (List.mem_of_getElem? hm)
    obtain ⟨j, rfl⟩ : ∃ j : Nat, m = j := ⟨m.toNat, by omega⟩
    have hj : j < pl.length := by omega
    refine ⟨stays_kp hS (Kp.refl _), ?_⟩
    walk_at "law x"
    rw [atI_nat (intsGet (List.getElem?_eq_getElem hj))]
    walk_at "law x"
    refine ⟨sz_le (show 2 ≤ 10000 by decide), by rw [len_prT, List.length_take]; exact sz_lt (by omega), rfl, hi', ?_⟩
    rw [List.take_add_one, show (hPts hl pl)[i]? = some ((j : Int) + 1, pl[j]) from by unfold hPts; rw [List.getElem?_map, hm]; show some ((j : Int) + 1, pl.getD j 0) = _; rw [List.getD_eq_getElem?_getD, List.getElem?_eq_getElem hj]; rfl, List.map_append, List.map_append]
    rfl
  · rintro acc S ⟨rfl, hi, rfl⟩
    rw [len_ints, List.take_of_length_le (by unfold hPts; rw [List.length_map]; exact Nat.le_refl _)]
    refine ⟨stays_kp hS (Kp.refl _), .inl ⟨_, rfl, ?_⟩⟩
    walk_at "law x"
    rw [allD_map]
    walk_at "law x"
    refine ⟨hPts hl pl, q, rfl, rfl, hq, ?_, fun r hr => ?_, by unfold hPts; rw [List.length_map]; exact hlen, h⟩
    · rw [hPts_fst]
      refine ⟨fun x hx => ?_, List.Pairwise.map _ (fun a b hab e => hab (by omega)) hnd⟩
      obtain ⟨m, hm, rfl⟩ := List.mem_map.mp hx
      have := hb m hm
      omega
    · obtain ⟨m, hm, rfl⟩ := List.mem_map.mp hr
      have hmb := hb m hm
      refine hpl _ ?_
      show pl.getD m.toNat 0 ∈ pl
      rw [List.getD_eq_getElem?_getD, List.getElem?_eq_getElem (show m.toNat < pl.length by omega)]
      exact List.getElem_mem _
/-- the hands off a curve -/
def offL (q : Int) (cs : List Int) (pl : List Int) : List Int := (rngI 0 pl.length).filter fun h => decide (pev cs (h + 1) % q ≠ pl.getD h.toNat 0)
def wp_off_hands : DWP := wp3 fun c cv ps st k _ => ∃ (q n t : Int) (cs pl : List Int), c = .d (coT q n t) ∧ cv = .d (.tuple (cs.map PyData.int)) ∧ ps = .d (.tuple (pl.map PyData.int)) ∧ 0 < q ∧ q < 1000 ∧ pl.length ≤ 1000 ∧ k (.d (.list ((offL q cs pl).map PyData.int))) st
def t_off_hands : DTS := (dRet (dLc (iEnT (dCons (dVar 2) dNil)) (gTp 2 (gCn (gN 3) (gCn (gN 4) gNl))) (dB (dOp (fEq true) (dCall wp_worth [] (fun _ _ => False) (dCons (dVar 1) (dCons (dOp fAdd (dVar 3) (dC (.int 1))) (dCons (dOp fIx (dVar 0) (dC (.int 0))) dNil)))) (dVar 4))) (dVar 3) [3, 4]))
theorem pure_off_hands : ∀ xs s k ke, wp_off_hands xs s k ke → t_off_hands { nx := fun _ s' => k (.d .none) s', rt := k } (startD ["company", "curve", "pieces", "hand", "piece"] xs) s := by
  intro xs st k ke h
  obtain ⟨c, cv, ps, rfl, q, n, t, cs, pl, rfl, rfl, rfl, q0, q1, hl, h⟩ := wp3_of h
  walk_at "law x"
  rw [allD_map]
  walk_at "law x"
  refine LcGo.inv (fun i acc S => S = st ∧ i ≤ pl.length ∧ acc = ((((rngI 0 pl.length).take i).filter fun h => decide (pev cs (h + 1) % q ≠ pl.getD h.toNat 0)).map PyData.int).map Sl.d) ⟨rfl, Nat.zero_le _, rfl⟩ ?_ ?_
  · rintro i x acc S hx ⟨rfl, hi, rfl⟩
    obtain ⟨d, hd, rfl⟩ := enD_get hx
    obtain ⟨p, hp, rfl⟩ := get_int hd
    have hi' := (List.getElem?_eq_some_iff.mp hp).1
    have eg : pl.getD i 0 = p := by rw [List.getD_eq_getElem?_getD, hp]; rfl
    have et : (rngI 0 pl.length).take (i + 1) = (rngI 0 pl.length).take i ++ [(i : Int)] := by
      rw [List.take_add_one, rngI_get hi', Int.zero_add]
      rfl
    refine ⟨trivial, ?_⟩
    walk_at "law x"
    refine ⟨rfl, ?_⟩
    walk_at "law x"
    refine ⟨cs, _, q, .inl rfl, rfl, rfl, q0, by omega, ?_⟩
    walk_at "law x"
    cases e : decide (pev cs ((i : Int) + 1) % q = p) with
    | true =>
      walk_at "law x"
      refine ⟨rfl, hi', ?_⟩
      rw [et, List.filter_append, List.filter_cons_of_neg (by show ¬ (decide (pev cs ((i : Int) + 1) % q ≠ pl.getD (i : Int).toNat 0) = true); rw [Int.toNat_natCast, eg, decide_eq_false (fun z => z (of_decide_eq_true e))]; exact Bool.false_ne_true), List.filter_nil, List.append_nil]
    | false =>
      walk_at "law x"
      refine ⟨?_, rfl, hi', ?_⟩
      · rw [len_ints]
        exact sz_lt (Nat.lt_of_le_of_lt (List.length_filter_le _ _) (by rw [List.length_take, rngI_len]; omega))
      · rw [et, List.filter_append, List.filter_cons_of_pos (by show decide (pev cs ((i : Int) + 1) % q ≠ pl.getD (i : Int).toNat 0) = true; rw [Int.toNat_natCast, eg]; exact decide_eq_true (of_decide_eq_false e)), List.filter_nil, ← ints_app]
        rfl
  · rintro acc S ⟨rfl, hi, rfl⟩
    rw [enD_len, List.length_map, List.take_of_length_le (by rw [rngI_len]; exact Nat.le_refl _)]
    exact ⟨trivial, .inl ⟨_, rfl, h⟩⟩

/-! ### lots of hands -/
/-- the rising lists of s numbers from l on below m, rising -/
def lotsP : Nat → Nat → Nat → List (List Int)
  | 0, _, _ => [[]]
  | s + 1, m, l => (List.range (m - s - l)).flatMap fun i => (lotsP s m (l + i + 1)).map fun r => ((l + i : Nat) : Int) :: r
theorem lotsP_mem : ∀ {s m l : Nat} {r : List Int}, r ∈ lotsP s m l ↔ r.length = s ∧ r.Pairwise (· < ·) ∧ ∀ x ∈ r, (l : Int) ≤ x ∧ x < m
  | 0, m, l, r => by
    unfold lotsP
    rw [List.mem_singleton]
    constructor
    · rintro rfl
      exact ⟨rfl, .nil, fun x h => by cases h⟩
    · rintro ⟨h, _⟩
      exact List.eq_nil_of_length_eq_zero h
  | s + 1, m, l, r => by
    unfold lotsP
    rw [List.mem_flatMap]
    constructor
    · rintro ⟨i, hi, hr⟩
      obtain ⟨q, hq, rfl⟩ := List.mem_map.mp hr
      obtain ⟨h1, h2, h3⟩ := lotsP_mem.mp hq
      have hi := List.mem_range.mp hi
      refine ⟨by rw [List.length_cons, h1], .cons (fun x hx => ?_) h2, fun x hx => ?_⟩
      · have := h3 x hx
        omega
      · rcases List.mem_cons.mp hx with rfl | hx
        · omega
        · have := h3 x hx
          omega
    · rintro ⟨h1, h2, h3⟩
      cases r with
      | nil => cases h1
      | cons a q =>
        have ha := h3 a List.mem_cons_self
        cases h2 with
        | cons h4 h5 =>
          have hq : q.length = s := by simpa using h1
          have key : a + s < m := by
            have : ∀ (n : Nat) (q : List Int) (a : Int), q.length = n → (∀ x ∈ q, a < x) → q.Pairwise (· < ·) → (∀ x ∈ q, x < m) → a < m → a + n < m := by
              intro n
              induction n with
              | zero => intro q a _ _ _ _ h; simpa using h
              | succ n ih =>
                intro q a hl hg hp hm h
                cases q with
                | nil => cases hl
                | cons b q =>
                  cases hp with
                  | cons g1 g2 =>
                    have hb := hg b List.mem_cons_self
                    have := ih q b (by simpa using hl) g1 g2 (fun x hx => hm x (List.mem_cons_of_mem _ hx)) (hm b List.mem_cons_self)
                    omega
            exact this s q a hq h4 h5 (fun x hx => (h3 x (List.mem_cons_of_mem _ hx)).2) ha.2
          refine ⟨(a - l).toNat, List.mem_range.mpr (by omega), List.mem_map.mpr ⟨q, lotsP_mem.mpr ⟨hq, h5, fun x hx => ?_⟩, ?_⟩⟩
          · have h6 := h4 x hx
            have h7 := h3 x (List.mem_cons_of_mem _ hx)
            omega
          · congr 1
            omega
theorem lotsP_num : ∀ m ∈ List.range 8, ∀ s ∈ List.range 6, ∀ l ∈ List.range 9, (lotsP s m l).length ≤ 100 := by decide +kernel
/-- rows as they stand in a list -/
def rowsS (ms : List (List Int)) : List Sl := ms.map fun m => .d (tupI m)
theorem rowsS_eq (ms : List (List Int)) : rowsS ms = (ms.map tupI).map Sl.d := by
  unfold rowsS
  rw [List.map_map]
  rfl
def wp_lots_of : Nat → DWP := fun n => wp3 fun a b c st k _ => ∃ (m s l : Nat), a = .d (.int m) ∧ b = .d (.int s) ∧ c = .d (.int l) ∧ m ≤ 7 ∧ s ≤ 5 ∧ l ≤ 8 ∧ s < n ∧ ∀ p S, st p = none → Kp st S → S p = some (.l (rowsS (lotsP s m l))) → k (.o p) S
theorem none_lots_of : ∀ xs s k ke, ¬ wp_lots_of 0 xs s k ke := fun xs s k ke h => by
  obtain ⟨_, _, _, _, m, s, l, _, _, _, _, _, _, h, _⟩ := wp3_of h
  omega
theorem len_lots_of : ∀ n xs s k ke, wp_lots_of n xs s k ke → xs.length = 3 := fun n xs s k ke h => len3 xs s k ke h
def r_lots_of_0 (wpR : DWP) : DTS := (dRet (dVar 3))
def b_lots_of_0 (wpR : DWP) : DTS := (dDrop (dOM fExt (dVar 3) (dCons (dLc (iSq (dCall wpR [] (fun _ _ => False) (dCons (dVar 0) (dCons (dOp fSub (dVar 1) (dC (.int 1))) (dCons (dOp fAdd (dVar 4) (dC (.int 1))) dNil))))) (gN 5) dYes (dOp fAdd (dTup2 (dCons (dVar 4) dNil)) (dVar 5)) [5]) dNil)))
theorem fl_lots_of_0 (wpR : DWP) {α : Type} {L : List α} {e : α → Sl} {D : DEnds} {xs : List Sl} {stay : Store → Prop} {st : Store} {v_many v_some v_least v_found v_hand v_rest : Option Sl} (hL : xs = L.map e) (I : List α → Store → Prop) (h0 : I [] st)
    (hs : ∀ d a r (v_hand' : Option Sl) S, L = d ++ a :: r → I d S → stay S ∧ (gN 4) (e a) [v_many, v_some, v_least, v_found, v_hand', v_rest] S fun ρ1 S1 => (b_lots_of_0 wpR) { D with nx := fun ρ' S' => ∃ v_hand'', ρ' = [v_many, v_some, v_least, v_found, v_hand'', v_rest] ∧ I (d ++ [a]) S', ct := fun ρ' S' => ∃ v_hand'', ρ' = [v_many, v_some, v_least, v_found, v_hand'', v_rest] ∧ I (d ++ [a]) S', bk := D.nx } ρ1 S1)
    (hd : ∀ (v_hand' : Option Sl) S, I L S → stay S ∧ D.nx [v_many, v_some, v_least, v_found, v_hand', v_rest] S) : ForGo (gN 4) (b_lots_of_0 wpR) D xs stay [v_many, v_some, v_least, v_found, v_hand, v_rest] st :=
  ForGo.done L e hL (fun d ρ S => ∃ v_hand', ρ = [v_many, v_some, v_least, v_found, v_hand', v_rest] ∧ I d S) ⟨_, rfl, h0⟩ (fun d a r ρ S hL ⟨v_hand', eρ, hi⟩ => by subst eρ; exact hs d a r v_hand' S hL hi) fun ρ S ⟨v_hand', eρ, hi⟩ => by subst eρ; exact hd v_hand' S hi
def r_lots_of_1 (wpR : DWP) : DTS := (dSeq (dAsg (dLst dNil) (gN 3))
  (dSeq (dFor (iRg2 (dCons (dVar 2) (dCons (dOp fAdd (dOp fSub (dVar 0) (dVar 1)) (dC (.int 1))) dNil))) (gN 4) (b_lots_of_0 wpR))
  (hold (r_lots_of_0 wpR))))
def t_lots_of (wpR : DWP) : DTS := (dSeq (dIfS (dB (dOp (fEq false) (dVar 1) (dC (.int 0)))) (dRet (dLst (dCons (dTup2 dNil) dNil))) dNext)
  (hold (r_lots_of_1 wpR)))
theorem lots_part {s m l i : Nat} {d r : List Nat} (h : List.range (m - s - l) = d ++ i :: r) (hm : m ≤ 7) (hs : s + 1 ≤ 5) (hl : l ≤ 8) :
    (d.flatMap fun i => (lotsP s m (l + i + 1)).map fun r => ((l + i : Nat) : Int) :: r).length + (lotsP s m (l + i + 1)).length ≤ 100 := by
  have h1 := lotsP_num m (List.mem_range.mpr (by omega)) (s + 1) (List.mem_range.mpr (by omega)) l (List.mem_range.mpr (by omega))
  unfold lotsP at h1
  rw [h, List.flatMap_append, List.flatMap_cons, List.length_append, List.length_append, List.length_map] at h1
  omega
theorem pure_lots_of : ∀ n xs s k ke, wp_lots_of (n + 1) xs s k ke → t_lots_of (wp_lots_of n) { nx := fun _ s' => k (.d .none) s', rt := k } (startD ["many", "some", "least", "found", "hand", "rest"] xs) s := by
  intro n xs st k ke h
  obtain ⟨a, b, c, rfl, m, s, l, rfl, rfl, rfl, hm, hs, hl, hn, h⟩ := wp3_of h
  cases s with
  | zero =>
    walk_at "law x"
    walk_at "law g"
    exact .inr fun p np => h p _ np (Kp.new (Kp.refl _) np) cset_same
  | succ s =>
    walk_at "law x"
    walk_at "law h"
    refine ⟨by walk_at "law c", .inr fun p np => ?_⟩
    walk_at "law g"
    rw [show ((m : Int) - ((s + 1 : Nat) : Int) + 1 - (l : Int)).toNat = m - s - l by omega]
    refine fl_lots_of_0 (wp_lots_of n) (L := List.range (m - s - l)) (e := fun i => .d (.int ((l : Int) + (i : Nat)))) rfl (fun d S => Kp st S ∧ S p = some (.l (rowsS (d.flatMap fun i => (lotsP s m (l + i + 1)).map fun r => ((l + i : Nat) : Int) :: r)))) ⟨Kp.new (Kp.refl _) np, cset_same⟩ ?_ ?_
    · rintro d i r m1 S hL ⟨kp, hp⟩
      have hi := (range_mid hL).1
      have hpart := lots_part hL hm hs hl
      refine ⟨trivial, ?_⟩
      walk_at "law x"
      rw [hp]
      refine ⟨rfl, ?_⟩
      walk_at "law x"
      refine ⟨m, s, l + i + 1, rfl, by rw [show ((s + 1 : Nat) : Int) - 1 = (s : Int) by omega], by rw [show (l : Int) + (i : Nat) + 1 = ((l + i + 1 : Nat) : Int) by omega], hm, by omega, by omega, by omega, fun g S' _ kp' hg => ?_⟩
      walk_at "law x"
      rw [seq_s hg]
      walk_at "law x"
      refine LcGo.map (lotsP s m (l + i + 1)) (fun r => .d (tupI r)) (fun r => tupI (((l + i : Nat) : Int) :: r)) rfl (sz_le (by omega)) hg ?_ ?_
      · intro r hr N P hP
        have hrl := (lotsP_mem.mp hr).1
        walk_at "law g"
        rw [show (l : Int) + (i : Nat) = ((l + i : Nat) : Int) by omega]
        exact hP
      · walk_at "law x"
        rw [kp'.at hp]
        walk_at "law x"
        refine ⟨sz_le ?_, ?_⟩
        · unfold rowsS
          rw [List.length_map, List.length_map, List.length_map]
          omega
        · refine ⟨_, rfl, Fx.new (kp.trans kp') np, ?_⟩
          rw [sset_same, List.flatMap_append, List.flatMap_cons, List.flatMap_nil, List.append_nil]
          unfold rowsS
          rw [List.map_append, List.map_map, List.map_map]
          rfl
    · rintro m1 S ⟨kp, hp⟩
      refine ⟨trivial, ?_⟩
      walk_at "law h"
      exact h p S np kp (by rw [hp]; rfl)
/-! ### the same lots, made otherwise and sorted -/
def stepL (s : Nat) (acc : List (List Int)) (h : Nat) : List (List Int) := acc ++ (acc.filter fun r => decide (r.length < s)).map fun r => r ++ [(h : Int)]
def allL (s : Nat) (d : List Nat) : List (List Int) := d.foldl (stepL s) [[]]
def lawL (m s : Nat) : List (List Int) := (allL s (List.range m)).filter fun r => decide (r.length = s)
def ltC (a b : List Int) : Bool := decide (TS.code 8 a < TS.code 8 b)
theorem lawL_perm : ∀ m ∈ List.range 8, ∀ s ∈ [2, 3, 4], s ≤ m → (lawL m s).Perm (lotsP s m 0) ∧ (lotsP s m 0).Pairwise (fun a b => TS.code 8 a < TS.code 8 b) ∧ (lawL m s).length < 64 ∧ lawL m s ≠ [] := by decide +kernel
theorem perm_sorted {α : Type} {f : α → Int} : ∀ {l2 l1 : List α}, l1.Perm l2 → l1.Pairwise (fun a b => f a ≤ f b) → l2.Pairwise (fun a b => f a < f b) → l1 = l2
  | [], l1, p, _, _ => p.eq_nil
  | b :: l2, l1, p, h1, h2 => by
    cases l1 with
    | nil => exact absurd p.symm.eq_nil (by simp)
    | cons a l1 =>
      cases h1 with
      | cons h3 h4 =>
        cases h2 with
        | cons h5 h6 =>
          have e : a = b := by
            rcases List.mem_cons.mp (p.mem_iff.mp List.mem_cons_self : a ∈ b :: l2) with z | z
            · exact z
            · rcases List.mem_cons.mp (p.mem_iff.mpr List.mem_cons_self : b ∈ a :: l1) with y | y
              · exact y.symm
              · have := h5 a z
                have := h3 b y
                omega
          subst e
          rw [perm_sorted (List.Perm.cons_inv p) h4 h6]
theorem allL_len {s : Nat} : ∀ d : List Nat, (∀ r ∈ allL s d, r.length ≤ d.length ∧ ∀ x ∈ r, ∃ h ∈ d, x = (h : Nat)) ∧ (allL s d).length ≤ 2 ^ d.length := by
  intro d
  have key : ∀ (d : List Nat) (acc : List (List Int)), (∀ r ∈ d.foldl (stepL s) acc, ∃ a ∈ acc, r.length ≤ a.length + d.length ∧ ∀ x ∈ r, x ∈ a ∨ ∃ h ∈ d, x = (h : Nat)) ∧ (d.foldl (stepL s) acc).length ≤ acc.length * 2 ^ d.length := by
    intro d
    induction d with
    | nil => intro acc; exact ⟨fun r hr => ⟨r, hr, by simp, fun x hx => .inl hx⟩, by simp⟩
    | cons h d ih =>
      intro acc
      obtain ⟨i1, i2⟩ := ih (stepL s acc h)
      refine ⟨fun r hr => ?_, ?_⟩
      · obtain ⟨a, ha, h1, h2⟩ := i1 r hr
        unfold stepL at ha
        rcases List.mem_append.mp ha with ha | ha
        · exact ⟨a, ha, by rw [List.length_cons]; omega, fun x hx => (h2 x hx).imp id fun ⟨z, hz, e⟩ => ⟨z, List.mem_cons_of_mem _ hz, e⟩⟩
        · obtain ⟨b, hb, rfl⟩ := List.mem_map.mp ha
          have hb := (List.mem_filter.mp hb).1
          refine ⟨b, hb, by rw [List.length_append] at h1; rw [List.length_cons]; have : [(h : Int)].length = 1 := rfl; omega, fun x hx => ?_⟩
          rcases h2 x hx with z | ⟨z, hz, e⟩
          · rcases List.mem_append.mp z with z | z
            · exact .inl z
            · exact .inr ⟨h, List.mem_cons_self, by simpa using z⟩
          · exact .inr ⟨z, List.mem_cons_of_mem _ hz, e⟩
      · refine Nat.le_trans i2 ?_
        have : (stepL s acc h).length ≤ acc.length * 2 := by
          unfold stepL
          rw [List.length_append, List.length_map]
          have := List.length_filter_le (fun r : List Int => decide (r.length < s)) acc
          omega
        rw [List.length_cons, Nat.pow_succ, Nat.mul_comm (2 ^ d.length) 2, ← Nat.mul_assoc]
        exact Nat.mul_le_mul_right _ this
  obtain ⟨k1, k2⟩ := key d [[]]
  refine ⟨fun r hr => ?_, by unfold allL; simpa using k2⟩
  obtain ⟨a, ha, h1, h2⟩ := k1 r hr
  rw [List.mem_singleton.mp ha] at h1 h2
  exact ⟨by simpa using h1, fun x hx => (h2 x hx).elim (fun z => by cases z) id⟩
theorem filterMap_if {α β : Type} (p : α → Prop) [DecidablePred p] (f : α → β) : ∀ l : List α, (l.filterMap fun r => if p r then some (f r) else none) = (l.filter fun r => decide (p r)).map f
  | [] => rfl
  | a :: l => by
    by_cases h : p a
    · rw [List.filterMap_cons_some (by rw [if_pos h]), List.filter_cons_of_pos (by simpa using h), List.map_cons, filterMap_if p f l]
    · rw [List.filterMap_cons_none (by rw [if_neg h]), List.filter_cons_of_neg (by simpa using h), filterMap_if p f l]
theorem intsOf_tups {m : List Int} {ms : List (List Int)} : intsOf (rowsS (m :: ms)) = none := by
  unfold rowsS
  rw [List.map_cons]
  rfl
def wp_law_lots : DWP := wp2 fun a b st k _ => ∃ (m s : Nat), a = .d (.int m) ∧ b = .d (.int s) ∧ m ≤ 7 ∧ 2 ≤ s ∧ s ≤ 4 ∧ s ≤ m ∧ k (.d (.list ((lotsP s m 0).map tupI))) st
def r_law_lots_0 : DTS := (dRet (dCB fSortedU (dCons (dLc (iSq (dVar 2)) (gN 4) (dB (dOp (fEq false) (dCB fLen (dCons (dVar 4) dNil)) (dVar 1))) (dVar 4) [4]) dNil)))
def b_law_lots_0 : DTS := (dAsg (dOp fAdd (dVar 2) (dLc (iSq (dVar 2)) (gN 4) (dB (dOp fLt (dCB fLen (dCons (dVar 4) dNil)) (dVar 1))) (dOp fAdd (dVar 4) (dTup2 (dCons (dVar 3) dNil))) [4])) (gN 2))
theorem fl_law_lots_0 {α : Type} {L : List α} {e : α → Sl} {D : DEnds} {xs : List Sl} {stay : Store → Prop} {st : Store} {v_many v_some v_lots_here v_hand v_lot : Option Sl} (hL : xs = L.map e) (I : List α → Option Sl → Store → Prop) (h0 : I [] v_lots_here st)
    (hs : ∀ d a r (v_lots_here' v_hand' : Option Sl) S, L = d ++ a :: r → I d v_lots_here' S → stay S ∧ (gN 3) (e a) [v_many, v_some, v_lots_here', v_hand', v_lot] S fun ρ1 S1 => b_law_lots_0 { D with nx := fun ρ' S' => ∃ v_lots_here'' v_hand'', ρ' = [v_many, v_some, v_lots_here'', v_hand'', v_lot] ∧ I (d ++ [a]) v_lots_here'' S', ct := fun ρ' S' => ∃ v_lots_here'' v_hand'', ρ' = [v_many, v_some, v_lots_here'', v_hand'', v_lot] ∧ I (d ++ [a]) v_lots_here'' S', bk := D.nx } ρ1 S1)
    (hd : ∀ (v_lots_here' v_hand' : Option Sl) S, I L v_lots_here' S → stay S ∧ D.nx [v_many, v_some, v_lots_here', v_hand', v_lot] S) : ForGo (gN 3) b_law_lots_0 D xs stay [v_many, v_some, v_lots_here, v_hand, v_lot] st :=
  ForGo.done L e hL (fun d ρ S => ∃ v_lots_here' v_hand', ρ = [v_many, v_some, v_lots_here', v_hand', v_lot] ∧ I d v_lots_here' S) ⟨_, _, rfl, h0⟩ (fun d a r ρ S hL ⟨v_lots_here', v_hand', eρ, hi⟩ => by subst eρ; exact hs d a r v_lots_here' v_hand' S hL hi) fun ρ S ⟨v_lots_here', v_hand', eρ, hi⟩ => by subst eρ; exact hd v_lots_here' v_hand' S hi
def t_law_lots : DTS := (dSeq (dAsg (dLst (dCons (dTup2 dNil) dNil)) (gN 2))
  (dSeq (dFor (iRg1 (dCons (dVar 0) dNil)) (gN 3) b_law_lots_0)
  (hold r_law_lots_0)))
theorem pure_law_lots : ∀ xs s k ke, wp_law_lots xs s k ke → t_law_lots { nx := fun _ s' => k (.d .none) s', rt := k } (startD ["_law_many", "_law_some", "_law_lots_here", "_law_hand", "_law_lot"] xs) s := by
  intro xs st k ke h
  obtain ⟨a, b, rfl, m, s, rfl, rfl, hm, h2, h4, hsm, h⟩ := wp2_of h
  walk_at "law g"
  refine .inl ⟨[tupI []], rfl, ?_⟩
  walk_at "law g"
  refine fl_law_lots_0 (L := List.range m) (e := fun i => .d (.int (0 + (i : Nat)))) (by rw [show ((m : Nat) : Int).toNat = m by omega]; rfl) (fun d v S => S = st ∧ v = some (.d (.list ((allL s d).map tupI)))) ⟨rfl, rfl⟩ ?_ ?_
  · rintro d i r m1 m2 S hL ⟨rfl, rfl⟩
    obtain ⟨hi, _, hdl⟩ := range_mid hL
    obtain ⟨l1, l2⟩ := allL_len (s := s) d
    have l3 : 2 ^ d.length ≤ 2 ^ 7 := Nat.pow_le_pow_right (by decide) (by omega)
    refine ⟨trivial, ?_⟩
    walk_at "law g"
    refine LcGo.some (allL s d) (fun r => .d (tupI r)) (fun r => if r.length < s then some (tupI (r ++ [(i : Int)])) else none) (by rw [List.map_map]; rfl) (sz_le (by omega)) trivial ?_ ?_
    · intro r hr N P hN hP
      have hrl := (l1 r hr).1
      walk_at "law g"
      rw [List.length_map, List.length_map]
      cases c : decide ((r.length : Int) < (s : Int)) with
      | false =>
        have c := of_decide_eq_false c
        exact hN (if_neg (by omega))
      | true =>
        have c := of_decide_eq_true c
        walk_at "law g"
        rw [show r.map PyData.int ++ [PyData.int (0 + (i : Nat))] = (r ++ [(i : Int)]).map PyData.int by rw [List.map_append, Int.zero_add]; rfl]
        exact hP _ (if_pos (by omega))
    · walk_at "law x"
      rw [filterMap_if (fun r : List Int => r.length < s) (fun r => tupI (r ++ [(i : Int)]))]
      have el : (allL s d).map tupI ++ ((allL s d).filter fun r => decide (r.length < s)).map (fun r => tupI (r ++ [(i : Int)])) = (allL s (d ++ [i])).map tupI := by
        unfold allL
        rw [List.foldl_append]
        show _ = (stepL s (d.foldl (stepL s) [[]]) i).map tupI
        unfold stepL
        rw [List.map_append, List.map_map]
        rfl
      have l4 := List.length_filter_le (fun r : List Int => decide (r.length < s)) (allL s d)
      refine ⟨sz_le (by rw [List.length_map, List.length_map, List.length_map, List.length_map]; omega), .inl ⟨(allL s (d ++ [i])).map tupI, by rw [← el, List.map_append], ?_⟩⟩
      exact ⟨_, _, rfl, rfl, rfl⟩
  · rintro m1 m2 S ⟨rfl, rfl⟩
    obtain ⟨l1, l2⟩ := allL_len (s := s) (List.range m)
    rw [List.length_range] at l1 l2
    have l3 : 2 ^ m ≤ 2 ^ 7 := Nat.pow_le_pow_right (by decide) (by omega)
    refine ⟨trivial, ?_⟩
    walk_at "law h"
    refine LcGo.some (allL s (List.range m)) (fun r => .d (tupI r)) (fun r => if r.length = s then some (tupI r) else none) (by rw [List.map_map]; rfl) (sz_le (by omega)) trivial ?_ ?_
    · intro r hr N P hN hP
      walk_at "law g"
      rw [List.length_map, List.length_map]
      cases c : decide ((r.length : Int) = (s : Int)) with
      | false =>
        have c := of_decide_eq_false c
        exact hN (if_neg (by omega))
      | true =>
        have c := of_decide_eq_true c
        exact hP _ (if_pos (by omega))
    · obtain ⟨p1, p2, p3, p4⟩ := lawL_perm m (List.mem_range.mpr (by omega)) s (by simp; omega) hsm
      rw [show (allL s (List.range m)).filterMap (fun r => if r.length = s then some (tupI r) else none) = (lawL m s).map tupI from by
        unfold lawL
        exact filterMap_if (fun r : List Int => r.length = s) tupI _]
      walk_at "law x"
      rw [← rowsS_eq]
      cases e : lawL m s with
      | nil => exact absurd e p4
      | cons x xs =>
        rw [intsOf_tups, ← e]
        walk_at "law x"
        rw [show tupsOf (rowsS (lawL m s)) = some (lawL m s) from tupsOf_map _]
        refine ⟨s, 8, ⟨by omega, p3, fun r hr => ?_⟩, fun ms hp hs => .inl ⟨ms.map tupI, rowsS_eq ms, ?_⟩⟩
        · have h1 := (List.mem_filter.mp hr)
          have h2 := (l1 r h1.1).2
          refine ⟨of_decide_eq_true h1.2, fun x hx => ?_⟩
          obtain ⟨z, hz, rfl⟩ := h2 x hx
          have := List.mem_range.mp hz
          omega
        · rw [perm_sorted (hp.trans p1) hs p2]
          exact h

/-! ### curves through hands' pieces -/
open Classical in
noncomputable def cvOf (q : Int) (hl pl : List Int) : List Int := if h : ∃ cs, Thru q (hPts hl pl) cs then Classical.choose h else []
structure Lot (q : Int) (n : Nat) (hl : List Int) : Prop where
  nd : hl.Nodup
  low : ∀ h ∈ hl, 0 ≤ h ∧ h < n
  nq : (n : Int) < q
theorem Lot.places {q : Int} {n : Nat} {hl : List Int} (h : Lot q n hl) (pl : List Int) : PlacesL q ((hPts hl pl).map (·.1)) := by
  rw [hPts_fst]
  refine ⟨fun x hx => ?_, List.Pairwise.map _ (fun a b hab e => hab (by omega)) h.nd⟩
  obtain ⟨m, hm, rfl⟩ := List.mem_map.mp hx
  have := h.low m hm
  have := h.nq
  omega
theorem Lot.thru {q : Int} {n : Nat} {hl : List Int} (hq : q ∈ nine) (h : Lot q n hl) (pl : List Int) : Thru q (hPts hl pl) (cvOf q hl pl) := by
  have e := thru_ex hq (h.places pl)
  unfold cvOf
  rw [dif_pos e]
  exact Classical.choose_spec e
theorem Lot.one {q : Int} {n : Nat} {hl : List Int} (hq : q ∈ nine) (h : Lot q n hl) {pl cs : List Int} (t : Thru q (hPts hl pl) cs) : cvOf q hl pl = cs := Thru.one hq (h.places pl) (h.thru hq pl) t
theorem lot_of {q : Int} {s n : Nat} {hl : List Int} (hm : hl ∈ lotsP s n 0) (nq : (n : Int) < q) : Lot q n hl := by
  obtain ⟨_, h2, h3⟩ := lotsP_mem.mp hm
  exact ⟨h2.imp fun h e => by omega, fun h hh => by have := h3 h hh; omega, nq⟩
theorem cnt2 {α : Type} (a b : α → Bool) : ∀ l : List α, l.length ≤ (l.filter fun x => !a x && !b x).length + (l.filter a).length + (l.filter b).length
  | [] => by simp
  | x :: l => by
    have ih := cnt2 a b l
    cases ha : a x <;> cases hb : b x <;> simp [ha, hb] <;> omega
theorem cnt1 {α : Type} (a : α → Bool) : ∀ l : List α, l.length = (l.filter fun x => !a x).length + (l.filter a).length
  | [] => by simp
  | x :: l => by
    have ih := cnt1 a l
    cases ha : a x <;> simp [ha] <;> omega
def offP (q : Int) (cs pl : List Int) (h : Int) : Bool := decide (pev cs (h + 1) % q ≠ pl.getD h.toNat 0)
theorem off_eq (q : Int) (cs pl : List Int) : offL q cs pl = (rngI 0 pl.length).filter (offP q cs pl) := rfl
theorem on_cg {q : Int} {cs pl : List Int} {h : Int} (hn : offP q cs pl h = false) (h0 : 0 ≤ h) (h1 : h.toNat < pl.length) (hp : ∀ p ∈ pl, 0 ≤ p ∧ p < q) : Cg q (pev cs (h + 1)) (pl.getD h.toNat 0) := by
  have e : pev cs (h + 1) % q = pl.getD h.toNat 0 := Classical.byContradiction fun z => by
    unfold offP at hn
    exact (of_decide_eq_false hn) z
  have hb := hp _ (List.mem_of_getElem? (getD_of h1))
  exact Cg.iff.mpr (e.trans (Int.emod_eq_of_lt hb.1 hb.2).symm)
theorem rngI_pw (lo : Int) (n : Nat) : (rngI lo n).Pairwise (· < ·) := by
  unfold rngI
  exact List.Pairwise.map _ (fun a b h => by omega) List.pairwise_lt_range
theorem rngI_mem {lo x : Int} {n : Nat} (h : x ∈ rngI lo n) : lo ≤ x ∧ x < lo + n := by
  unfold rngI at h
  obtain ⟨i, hi, rfl⟩ := List.mem_map.mp h
  have := List.mem_range.mp hi
  omega
/-- two curves with few hands off are one -/
theorem one_curve {q : Int} (hq : q ∈ nine) {pl c d : List Int} {s f : Nat} (nq : (pl.length : Int) < q) (hp : ∀ p ∈ pl, 0 ≤ p ∧ p < q) (hc : c.length = s) (hd : d.length = s) (lc : ∀ x ∈ c, 0 ≤ x ∧ x < q) (ld : ∀ x ∈ d, 0 ≤ x ∧ x < q)
    (oc : (offL q c pl).length ≤ f) (od : (offL q d pl).length ≤ f) (hn : s + 2 * f ≤ pl.length) : c = d := by
  have k := cnt2 (offP q c pl) (offP q d pl) (rngI 0 pl.length)
  rw [rngI_len, ← off_eq, ← off_eq] at k
  obtain ⟨on, hon⟩ : ∃ on, on = (rngI 0 pl.length).filter fun x => !offP q c pl x && !offP q d pl x := ⟨_, rfl⟩
  rw [← hon] at k
  have mem : ∀ h ∈ on, (0 ≤ h ∧ h < pl.length) ∧ offP q c pl h = false ∧ offP q d pl h = false := fun h hh => by
    rw [hon] at hh
    obtain ⟨h1, h2⟩ := List.mem_filter.mp hh
    have := rngI_mem h1
    simp only [Bool.and_eq_true, Bool.not_eq_true'] at h2
    exact ⟨by omega, h2⟩
  have pw : on.Pairwise (· < ·) := by rw [hon]; exact (rngI_pw 0 _).filter _
  have pp : PlacesL q (on.map (· + 1)) := by
    refine ⟨fun x hx => ?_, List.Pairwise.map _ (fun a b hab e => absurd hab (by omega)) pw⟩
    obtain ⟨h, hh, rfl⟩ := List.mem_map.mp hx
    have := (mem h hh).1
    omega
  refine curves_eq hq (uneq_places pp) (hc.trans hd.symm) (by rw [List.length_map]; omega) lc ld fun x hx => ?_
  obtain ⟨h, hh, rfl⟩ := List.mem_map.mp hx
  obtain ⟨h1, h2, h3⟩ := mem h hh
  exact (on_cg h2 h1.1 (by omega) hp).trans (on_cg h3 h1.1 (by omega) hp).symm
/-- .. and it goes through a lot among the first ones -/
theorem early_lot {q : Int} (hq : q ∈ nine) {pl c : List Int} {s f m : Nat} (nq : (pl.length : Int) < q) (hp : ∀ p ∈ pl, 0 ≤ p ∧ p < q) (hc : c.length = s) (lc : ∀ x ∈ c, 0 ≤ x ∧ x < q) (oc : (offL q c pl).length ≤ f) (hm : s + f = m) (hmn : m ≤ pl.length) :
    ∃ hl ∈ lotsP s m 0, cvOf q hl pl = c := by
  have k := cnt1 (offP q c pl) (rngI 0 m)
  rw [rngI_len] at k
  obtain ⟨tl, ex⟩ : ∃ tl, rngI 0 pl.length = rngI 0 m ++ tl := by
    obtain ⟨r, hr⟩ : ∃ r, pl.length = m + r := ⟨pl.length - m, by omega⟩
    rw [hr]
    unfold rngI
    rw [List.range_add, List.map_append]
    exact ⟨_, rfl⟩
  have k2 : ((rngI 0 m).filter (offP q c pl)).length ≤ f := by
    rw [off_eq, ex, List.filter_append, List.length_append] at oc
    omega
  obtain ⟨on, hon⟩ : ∃ on, on = (rngI 0 m).filter fun x => !offP q c pl x := ⟨_, rfl⟩
  rw [← hon] at k
  have mem : ∀ h ∈ on, (0 ≤ h ∧ h < m) ∧ offP q c pl h = false := fun h hh => by
    rw [hon] at hh
    obtain ⟨h1, h2⟩ := List.mem_filter.mp hh
    have := rngI_mem h1
    exact ⟨by omega, by simpa using h2⟩
  have pw : on.Pairwise (· < ·) := by rw [hon]; exact (rngI_pw 0 _).filter _
  have hm2 : on.take s ∈ lotsP s m 0 := lotsP_mem.mpr ⟨by rw [List.length_take]; omega, pw.take, fun x hx => by have := (mem x (List.mem_of_mem_take hx)).1; omega⟩
  refine ⟨on.take s, hm2, (lot_of hm2 (by omega)).one hq ⟨by unfold hPts; rw [List.length_map, List.length_take, hc]; omega, lc, fun p hp' => ?_⟩⟩
  unfold hPts at hp'
  obtain ⟨h, hh, rfl⟩ := List.mem_map.mp hp'
  have h1 := mem h (List.mem_of_mem_take hh)
  exact on_cg h1.2 h1.1.1 (by omega) hp

theorem atI_some {pl : List Int} {h : Int} (h0 : 0 ≤ h) (h1 : h < pl.length) : atI ((pl.map PyData.int).map Sl.d) h = some (.d (.int (pl.getD h.toNat 0))) := by
  obtain ⟨j, rfl⟩ : ∃ j : Nat, h = j := ⟨h.toNat, by omega⟩
  exact atI_nat (intsGet (getD_of (by omega)))
/-- what is told of pieces by a curve -/
def numD (y : Int) (off : List Int) : PyData := .tuple [.str "number", .int y, tupI off]
noncomputable def covD (q : Int) (f : Nat) (pl hl : List Int) : PyData := .tuple [tupI hl, tupI ((offL q (cvOf q hl pl) pl).take (f + 1))]
structure Mend (q : Int) (n t : Nat) (pl : List Int) : Prop where
  prime : q ∈ nine
  nq : (n : Int) < q
  n7 : n ≤ 7
  t1 : 1 ≤ t
  t3 : t ≤ 3
  tn : 2 * t < n
  len : pl.length = n
  low : ∀ p ∈ pl, 0 ≤ p ∧ p < q
noncomputable def wp_mended : DWP := wp2 fun c ps st k _ => ∃ (q : Int) (n t f : Nat) (pl : List Int), c = .d (coT q n t) ∧ ps = .d (tupI pl) ∧ Mend q n t pl ∧ f = (n - t - 1) / 2 ∧
  (∀ hl ∈ lotsP (t + 1) (t + f + 1) 0, (offL q (cvOf q hl pl) pl).length ≤ f → ∀ S, Kp st S → k (.d (numD ((cvOf q hl pl).getD 0 0) (offL q (cvOf q hl pl) pl))) S) ∧
  ((∀ hl ∈ lotsP (t + 1) (t + f + 1) 0, f < (offL q (cvOf q hl pl) pl).length) → ∀ S c, Kp st S → st c = none → S c = some (.l (((lotsP (t + 1) (t + f + 1) 0).map (covD q f pl)).map Sl.d)) → k (mkT [.d (.str "none"), .o c]) S)
def r_mended_0 : DTS := (dRet (dTup2 (dCons (dC (.str "none")) (dCons (dVar 6) dNil))))
def r_mended_1 : DTS := (dDrop (dOM fApp (dVar 6) (dCons (dTup2 (dCons (dVar 7) (dCons (dSl (dVar 9) dNoP (dPt (dOp fAdd (dVar 5) (dC (.int 1))))) dNil))) dNil)))
def b_mended_0 : DTS := (dSeq (dAsg (dCall wp_curve_of [] (fun _ _ => False) (dCons (dVar 0) (dCons (dVar 7) (dCons (dVar 1) dNil)))) (gN 8))
  (dSeq (dAsg (dCB fTuple (dCons (dCall wp_off_hands [] (fun _ _ => False) (dCons (dVar 0) (dCons (dVar 8) (dCons (dVar 1) dNil)))) dNil)) (gN 9))
  (dSeq (dIfS (dB (dOp fLe (dCB fLen (dCons (dVar 9) dNil)) (dVar 5))) (dRet (dTup2 (dCons (dC (.str "number")) (dCons (dOp fIx (dVar 8) (dC (.int 0))) (dCons (dVar 9) dNil))))) dNext)
  (hold r_mended_1))))
theorem fl_mended_0 {α : Type} {L : List α} {e : α → Sl} {D : DEnds} {xs : List Sl} {stay : Store → Prop} {st : Store} {v_company v_pieces v_prime v_many v_few v_slack v_cover v_some v_curve v_off : Option Sl} (hL : xs = L.map e) (I : List α → Store → Prop) (h0 : I [] st)
    (hs : ∀ d a r (v_some' v_curve' v_off' : Option Sl) S, L = d ++ a :: r → I d S → stay S ∧ (gN 7) (e a) [v_company, v_pieces, v_prime, v_many, v_few, v_slack, v_cover, v_some', v_curve', v_off'] S fun ρ1 S1 => b_mended_0 { D with nx := fun ρ' S' => ∃ v_some'' v_curve'' v_off'', ρ' = [v_company, v_pieces, v_prime, v_many, v_few, v_slack, v_cover, v_some'', v_curve'', v_off''] ∧ I (d ++ [a]) S', ct := fun ρ' S' => ∃ v_some'' v_curve'' v_off'', ρ' = [v_company, v_pieces, v_prime, v_many, v_few, v_slack, v_cover, v_some'', v_curve'', v_off''] ∧ I (d ++ [a]) S', bk := D.nx } ρ1 S1)
    (hd : ∀ (v_some' v_curve' v_off' : Option Sl) S, I L S → stay S ∧ D.nx [v_company, v_pieces, v_prime, v_many, v_few, v_slack, v_cover, v_some', v_curve', v_off'] S) : ForGo (gN 7) b_mended_0 D xs stay [v_company, v_pieces, v_prime, v_many, v_few, v_slack, v_cover, v_some, v_curve, v_off] st :=
  ForGo.done L e hL (fun d ρ S => ∃ v_some' v_curve' v_off', ρ = [v_company, v_pieces, v_prime, v_many, v_few, v_slack, v_cover, v_some', v_curve', v_off'] ∧ I d S) ⟨_, _, _, rfl, h0⟩ (fun d a r ρ S hL ⟨v_some', v_curve', v_off', eρ, hi⟩ => by subst eρ; exact hs d a r v_some' v_curve' v_off' S hL hi) fun ρ S ⟨v_some', v_curve', v_off', eρ, hi⟩ => by subst eρ; exact hd v_some' v_curve' v_off' S hi
def t_mended : DTS := (dSeq (dAsg (dVar 0) (gTp 3 (gCn (gN 2) (gCn (gN 3) (gCn (gN 4) gNl)))))
  (dSeq (dAsg (dOp fDiv (dOp fSub (dOp fSub (dVar 3) (dVar 4)) (dC (.int 1))) (dC (.int 2))) (gN 5))
  (dSeq (dAsg (dLst dNil) (gN 6))
  (dSeq (dFor (iSq (dCall (wp_lots_of 6) [.d (.int 0)] (fun _ _ => False) (dCons (dOp fAdd (dOp fAdd (dVar 4) (dVar 5)) (dC (.int 1))) (dCons (dOp fAdd (dVar 4) (dC (.int 1))) dNil)))) (gN 7) b_mended_0)
  (hold r_mended_0)))))
theorem pure_mended : ∀ xs s k ke, wp_mended xs s k ke → t_mended { nx := fun _ s' => k (.d .none) s', rt := k } (startD ["company", "pieces", "prime", "many", "few", "slack", "cover", "some", "curve", "off"] xs) s := by
  intro xs st k ke h
  obtain ⟨c, ps, rfl, q, n, t, f, pl, rfl, rfl, M, hf, hk, hk2⟩ := wp2_of h
  have hq5 := nine_le M.prime
  have := M.tn
  have := M.n7
  have := M.t1
  have := M.t3
  have := M.len
  have := M.nq
  walk_at "law g"
  rw [show ((n : Int) - (t : Int) - 1) / 2 = (f : Int) by omega]
  refine .inr fun cv ncv => ?_
  walk_at "law g"
  refine ⟨t + f + 1, t + 1, 0, by rw [show (t : Int) + (f : Int) + 1 = ((t + f + 1 : Nat) : Int) by omega], by rw [show (t : Int) + 1 = ((t + 1 : Nat) : Int) by omega], rfl, by omega, by omega, by omega, by omega, fun g S ng kp hg => ?_⟩
  have hcv : S cv = some (.l []) := kp.at cset_same
  have kp0 : Kp st S := (Kp.new (Kp.refl _) ncv).trans kp
  have gcv : g ≠ cv := fun z => by
    rw [z, sset_same] at ng
    cases ng
  walk_at "law x"
  rw [seq_s hg]
  walk_at "law x"
  refine fl_mended_0 (L := lotsP (t + 1) (t + f + 1) 0) (e := fun r => .d (tupI r)) rfl (fun d S' => Kp st S' ∧ S' g = some (.l (rowsS (lotsP (t + 1) (t + f + 1) 0))) ∧ S' cv = some (.l ((d.map (covD q f pl)).map Sl.d)) ∧ ∀ hl ∈ d, f < (offL q (cvOf q hl pl) pl).length) ⟨kp0, hg, hcv, fun _ z => by cases z⟩ ?_ ?_
  · rintro d hl r m1 m2 m3 S hL ⟨kp, hg, hcv, hno⟩
    have hm : hl ∈ lotsP (t + 1) (t + f + 1) 0 := by rw [hL]; simp
    have hlot : Lot q (t + f + 1) hl := lot_of hm (by omega)
    have hll := (lotsP_mem.mp hm).1
    refine ⟨hg, ?_⟩
    walk_at "law x"
    refine ⟨q, n, t, hl, pl, rfl, rfl, rfl, M.prime, fun h hh => by have := hlot.low h hh; omega, hlot.nd, by omega, fun p hp => by have := M.low p hp; omega, fun cs S' ht kp' => ?_⟩
    obtain rfl := hlot.one M.prime ht
    walk_at "law x"
    refine ⟨q, n, t, _, pl, rfl, rfl, rfl, by omega, by omega, by omega, ?_⟩
    walk_at "law x"
    rw [allD_map]
    walk_at "law x"
    rw [List.length_map, List.length_map]
    cases e : decide (((offL q (cvOf q hl pl) pl).length : Int) ≤ (f : Int)) with
    | true =>
      have e := of_decide_eq_true e
      walk_at "law g"
      rw [show atI (((cvOf q hl pl).map PyData.int).map Sl.d) 0 = some (.d (.int ((cvOf q hl pl).getD 0 0))) from atI_some (by omega) (by rw [ht.num]; unfold hPts; rw [List.length_map]; omega)]
      walk_at "law g"
      exact hk hl hm (by omega) S' (kp.trans kp')
    | false =>
      have e := of_decide_eq_false e
      walk_at "law h"
      rw [kp'.at hcv]
      refine ⟨rfl, ?_⟩
      walk_at "law x"
      rw [show (f : Int) + 1 = ((f + 1 : Nat) : Int) by omega, cut_take, map2_take, allD_map]
      walk_at "law x"
      refine ⟨by walk_at "law c", ?_⟩
      walk_at "law x"
      rw [kp'.at hcv]
      walk_at "law x"
      have hn := lotsP_num (t + f + 1) (List.mem_range.mpr (by omega)) (t + 1) (List.mem_range.mpr (by omega)) 0 (by decide)
      rw [hL, List.length_append, List.length_cons] at hn
      refine ⟨sz_le (by rw [List.length_map, List.length_map]; omega), ?_⟩
      refine ⟨_, _, _, rfl, Fx.new (kp.trans kp') ncv, ?_, ?_, fun z hz => ?_⟩
      · rw [sset_ne gcv]
        exact kp'.at hg
      · rw [sset_same, List.map_append, List.map_append]
        rfl
      · rcases List.mem_append.mp hz with hz | hz
        · exact hno z hz
        · rw [List.mem_singleton.mp hz]
          omega
  · rintro m1 m2 m3 S ⟨kp, hg, hcv, hno⟩
    refine ⟨hg, ?_⟩
    walk_at "law h"
    walk_at "law g"
    exact hk2 hno S cv kp ncv hcv

/-! ### what is due of pieces -/
theorem Mend.lot {q : Int} {n t : Nat} {pl hl : List Int} (M : Mend q n t pl) {s m : Nat} (hm : hl ∈ lotsP s m 0) (h : m ≤ n) : Lot q n hl := by
  have := M.nq
  have h1 := lot_of (q := q) hm (by omega)
  exact ⟨h1.nd, fun h hh => by have := h1.low h hh; omega, M.nq⟩
theorem Mend.hpts {q : Int} {n t : Nat} {pl hl : List Int} (M : Mend q n t pl) (hb : ∀ h ∈ hl, 0 ≤ h ∧ h < n) : ∀ p ∈ hPts hl pl, 0 ≤ p.2 ∧ p.2 < q := fun p hp => by
  unfold hPts at hp
  obtain ⟨h, hh, rfl⟩ := List.mem_map.mp hp
  have h1 := hb h hh
  have h2 := M.len
  exact M.low _ (List.mem_of_getElem? (getD_of (by omega)))
def wp_law_off : DWP := wp3 fun c l s st k _ => ∃ (q : Int) (n t : Nat) (hl pl : List Int), c = .d (coT q n t) ∧ l = .d (tupI hl) ∧ s = .d (tupI pl) ∧ Mend q n t pl ∧ Lot q n hl ∧ hl.length ≤ 7 ∧ k (.d (.list ((offL q (cvOf q hl pl) pl).map PyData.int))) st
def t_law_off : DTS := (dSeq (dAsg (dLc (iSq (dVar 1)) (gN 4) dYes (dTup2 (dCons (dOp fAdd (dVar 4) (dC (.int 1))) (dCons (dOp fIx (dVar 2) (dVar 4)) dNil))) [4]) (gN 3))
  (dRet (dLc (iRg1 (dCons (dOp fIx (dVar 0) (dC (.int 1))) dNil)) (gN 4) (dB (dOp (fEq true) (dCall wp_law_at [] (fun _ _ => False) (dCons (dVar 3) (dCons (dOp fAdd (dVar 4) (dC (.int 1))) (dCons (dOp fIx (dVar 0) (dC (.int 0))) dNil)))) (dOp fIx (dVar 2) (dVar 4)))) (dVar 4) [4])))
theorem pure_law_off : ∀ xs s k ke, wp_law_off xs s k ke → t_law_off { nx := fun _ s' => k (.d .none) s', rt := k } (startD ["_law_group", "_law_lot", "_law_some", "_law_points", "_law_hand"] xs) s := by
  intro xs st k ke h
  obtain ⟨c, l, s, rfl, q, n, t, hl, pl, rfl, rfl, rfl, M, L, hn, hk⟩ := wp3_of h
  have hq5 := nine_le M.prime
  have := M.n7
  have := M.len
  have := M.nq
  have hf := L.thru M.prime pl
  walk_at "law g"
  refine LcGo.map hl (fun h => .d (.int h)) (fun h => prT (h + 1, pl.getD h.toNat 0)) (by rw [List.map_map]; rfl) (sz_le (by omega)) trivial ?_ ?_
  · intro h hh N P hP
    have hb := L.low h hh
    walk_at "law x"
    rw [atI_some (by omega) (by omega)]
    walk_at "law g"
    exact hP
  · walk_at "law x"
    rw [show hl.map (fun h => prT (h + 1, pl.getD h.toNat 0)) = (hPts hl pl).map prT from by unfold hPts; rw [List.map_map]; rfl]
    walk_at "law g"
    refine LcGo.some (List.range n) (fun i => .d (.int (0 + (i : Nat)))) (fun (i : Nat) => if pev (cvOf q hl pl) ((i : Int) + 1) % q ≠ pl.getD i 0 then some (PyData.int (i : Nat)) else none) (by rw [show ((n : Nat) : Int).toNat = n by omega]; rfl) (sz_le (by rw [List.length_range]; omega)) trivial ?_ ?_
    · intro i hi N P hN hP
      have hi' := List.mem_range.mp hi
      walk_at "law x"
      refine ⟨hPts hl pl, _, q, cvOf q hl pl, rfl, trivial, rfl, rfl, M.prime, ⟨by omega, by omega⟩, L.places pl, M.hpts L.low, hf, ?_⟩
      walk_at "law x"
      rw [atI_some (by omega) (by omega)]
      walk_at "law x"
      rw [Int.zero_add]
      cases e : decide (pev (cvOf q hl pl) ((i : Int) + 1) % q = pl.getD (i : Int).toNat 0) with
      | true => exact hN (if_neg fun z => z (of_decide_eq_true e))
      | false => exact hP _ (if_pos fun z => of_decide_eq_false e z)
    · rw [filterMap_if (fun i : Nat => pev (cvOf q hl pl) ((i : Int) + 1) % q ≠ pl.getD i 0) (fun i : Nat => PyData.int (i : Nat))]
      have e1 : (offL q (cvOf q hl pl) pl).map PyData.int = ((List.range n).filter fun i : Nat => decide (pev (cvOf q hl pl) ((i : Int) + 1) % q ≠ pl.getD i 0)).map (fun i : Nat => PyData.int (i : Nat)) := by
        have e2 : rngI 0 n = (List.range n).map fun i : Nat => (i : Int) := by
          unfold rngI
          exact List.map_congr_left fun i _ => Int.zero_add _
        unfold offL
        rw [M.len, e2, List.filter_map, List.map_map]
        rfl
      rw [← e1]
      exact hk
/-- a number told -/
def IsNum (q : Int) (n t f : Nat) (pl : List Int) (D : PyData) : Prop := ∃ hl ∈ lotsP (t + 1) n 0, (offL q (cvOf q hl pl) pl).length ≤ f ∧ D = numD ((cvOf q hl pl).getD 0 0) (offL q (cvOf q hl pl) pl)
/-- none told -/
def NoNum (q : Int) (n t f : Nat) (pl : List Int) : Prop := ∀ hl ∈ lotsP (t + 1) n 0, f < (offL q (cvOf q hl pl) pl).length
theorem pev0 : ∀ {q : Int} {cs : List Int}, (∀ x ∈ cs, 0 ≤ x ∧ x < q) → 0 < q → pev cs 0 % q = cs.getD 0 0
  | q, [], _, _ => Int.zero_emod q
  | q, c :: r, h, _ => by
    rw [pev_cons, Int.mul_zero, Int.zero_add]
    have := h c List.mem_cons_self
    exact Int.emod_eq_of_lt this.1 this.2
theorem lots_sz {m s : Nat} (hm : m ≤ 7) (hs : s ≤ 5) : (lotsP s m 0).length ≤ 100 := lotsP_num m (List.mem_range.mpr (by omega)) s (List.mem_range.mpr (by omega)) 0 (by decide)
noncomputable def wp_law_due : DWP := wp2 fun c ps st k _ => ∃ (q : Int) (n t f : Nat) (pl : List Int), c = .d (coT q n t) ∧ ps = .d (tupI pl) ∧ Mend q n t pl ∧ f = (n - t - 1) / 2 ∧
  (∀ D, IsNum q n t f pl D → k (.d D) st) ∧
  (NoNum q n t f pl → ∀ S c, Kp st S → st c = none → S c = some (.l (((lotsP (t + 1) (t + f + 1) 0).map (covD q f pl)).map Sl.d)) → k (mkT [.d (.str "none"), .o c]) S)
def r_law_due_0 : DTS := (dRet (dTup2 (dCons (dC (.str "none")) (dCons (dVar 8) dNil))))
def b_law_due_0 : DTS := (dDrop (dOM fApp (dVar 8) (dCons (dTup2 (dCons (dVar 6) (dCons (dCB fTuple (dCons (dSl (dCall wp_law_off [] (fun _ _ => False) (dCons (dVar 0) (dCons (dVar 6) (dCons (dVar 1) dNil)))) dNoP (dPt (dOp fAdd (dVar 5) (dC (.int 1))))) dNil)) dNil))) dNil)))
theorem fl_law_due_0 {α : Type} {L : List α} {e : α → Sl} {D : DEnds} {xs : List Sl} {stay : Store → Prop} {st : Store} {v_group v_some v_prime v_hands v_few v_slack v_lot v_off_here v_cover v_hand : Option Sl} (hL : xs = L.map e) (I : List α → Store → Prop) (h0 : I [] st)
    (hs : ∀ d a r (v_lot' : Option Sl) S, L = d ++ a :: r → I d S → stay S ∧ (gN 6) (e a) [v_group, v_some, v_prime, v_hands, v_few, v_slack, v_lot', v_off_here, v_cover, v_hand] S fun ρ1 S1 => b_law_due_0 { D with nx := fun ρ' S' => ∃ v_lot'', ρ' = [v_group, v_some, v_prime, v_hands, v_few, v_slack, v_lot'', v_off_here, v_cover, v_hand] ∧ I (d ++ [a]) S', ct := fun ρ' S' => ∃ v_lot'', ρ' = [v_group, v_some, v_prime, v_hands, v_few, v_slack, v_lot'', v_off_here, v_cover, v_hand] ∧ I (d ++ [a]) S', bk := D.nx } ρ1 S1)
    (hd : ∀ (v_lot' : Option Sl) S, I L S → stay S ∧ D.nx [v_group, v_some, v_prime, v_hands, v_few, v_slack, v_lot', v_off_here, v_cover, v_hand] S) : ForGo (gN 6) b_law_due_0 D xs stay [v_group, v_some, v_prime, v_hands, v_few, v_slack, v_lot, v_off_here, v_cover, v_hand] st :=
  ForGo.done L e hL (fun d ρ S => ∃ v_lot', ρ = [v_group, v_some, v_prime, v_hands, v_few, v_slack, v_lot', v_off_here, v_cover, v_hand] ∧ I d S) ⟨_, rfl, h0⟩ (fun d a r ρ S hL ⟨v_lot', eρ, hi⟩ => by subst eρ; exact hs d a r v_lot' S hL hi) fun ρ S ⟨v_lot', eρ, hi⟩ => by subst eρ; exact hd v_lot' S hi
def r_law_due_1 : DTS := (dSeq (dAsg (dLst dNil) (gN 8))
  (dSeq (dFor (iSq (dCall wp_law_lots [] (fun _ _ => False) (dCons (dOp fAdd (dOp fAdd (dVar 4) (dVar 5)) (dC (.int 1))) (dCons (dOp fAdd (dVar 4) (dC (.int 1))) dNil)))) (gN 6) b_law_due_0)
  (hold r_law_due_0)))
def b_law_due_1 : DTS := (dSeq (dAsg (dCall wp_law_off [] (fun _ _ => False) (dCons (dVar 0) (dCons (dVar 6) (dCons (dVar 1) dNil)))) (gN 7))
  (dIfS (dB (dOp fLe (dCB fLen (dCons (dVar 7) dNil)) (dVar 5))) (dRet (dTup2 (dCons (dC (.str "number")) (dCons (dCall wp_law_at [] (fun _ _ => False) (dCons (dLc (iSq (dVar 6)) (gN 9) dYes (dTup2 (dCons (dOp fAdd (dVar 9) (dC (.int 1))) (dCons (dOp fIx (dVar 1) (dVar 9)) dNil))) [9]) (dCons (dC (.int 0)) (dCons (dVar 2) dNil)))) (dCons (dCB fTuple (dCons (dVar 7) dNil)) dNil))))) dNext))
theorem fl_law_due_1 {α : Type} {L : List α} {e : α → Sl} {D : DEnds} {xs : List Sl} {stay : Store → Prop} {st : Store} {v_group v_some v_prime v_hands v_few v_slack v_lot v_off_here v_cover v_hand : Option Sl} (hL : xs = L.map e) (I : List α → Store → Prop) (h0 : I [] st)
    (hs : ∀ d a r (v_lot' v_off_here' : Option Sl) S, L = d ++ a :: r → I d S → stay S ∧ (gN 6) (e a) [v_group, v_some, v_prime, v_hands, v_few, v_slack, v_lot', v_off_here', v_cover, v_hand] S fun ρ1 S1 => b_law_due_1 { D with nx := fun ρ' S' => ∃ v_lot'' v_off_here'', ρ' = [v_group, v_some, v_prime, v_hands, v_few, v_slack, v_lot'', v_off_here'', v_cover, v_hand] ∧ I (d ++ [a]) S', ct := fun ρ' S' => ∃ v_lot'' v_off_here'', ρ' = [v_group, v_some, v_prime, v_hands, v_few, v_slack, v_lot'', v_off_here'', v_cover, v_hand] ∧ I (d ++ [a]) S', bk := D.nx } ρ1 S1)
    (hd : ∀ (v_lot' v_off_here' : Option Sl) S, I L S → stay S ∧ D.nx [v_group, v_some, v_prime, v_hands, v_few, v_slack, v_lot', v_off_here', v_cover, v_hand] S) : ForGo (gN 6) b_law_due_1 D xs stay [v_group, v_some, v_prime, v_hands, v_few, v_slack, v_lot, v_off_here, v_cover, v_hand] st :=
  ForGo.done L e hL (fun d ρ S => ∃ v_lot' v_off_here', ρ = [v_group, v_some, v_prime, v_hands, v_few, v_slack, v_lot', v_off_here', v_cover, v_hand] ∧ I d S) ⟨_, _, rfl, h0⟩ (fun d a r ρ S hL ⟨v_lot', v_off_here', eρ, hi⟩ => by subst eρ; exact hs d a r v_lot' v_off_here' S hL hi) fun ρ S ⟨v_lot', v_off_here', eρ, hi⟩ => by subst eρ; exact hd v_lot' v_off_here' S hi
def t_law_due : DTS := (dSeq (dAsg (dVar 0) (gTp 3 (gCn (gN 2) (gCn (gN 3) (gCn (gN 4) gNl)))))
  (dSeq (dAsg (dOp fDiv (dOp fSub (dOp fSub (dVar 3) (dVar 4)) (dC (.int 1))) (dC (.int 2))) (gN 5))
  (dSeq (dFor (iSq (dCall wp_law_lots [] (fun _ _ => False) (dCons (dVar 3) (dCons (dOp fAdd (dVar 4) (dC (.int 1))) dNil)))) (gN 6) b_law_due_1)
  (hold r_law_due_1))))
theorem pure_law_due : ∀ xs s k ke, wp_law_due xs s k ke → t_law_due { nx := fun _ s' => k (.d .none) s', rt := k } (startD ["_law_group", "_law_some", "_law_prime", "_law_hands", "_law_few", "_law_slack", "_law_lot", "_law_off_here", "_law_cover", "_law_hand"] xs) s := by
  intro xs st k ke h
  obtain ⟨c, ps, rfl, q, n, t, f, pl, rfl, rfl, M, hf, hk, hk2⟩ := wp2_of h
  have hq5 := nine_le M.prime
  have := M.tn
  have := M.n7
  have := M.t1
  have := M.t3
  have := M.len
  have := M.nq
  walk_at "law g"
  rw [show ((n : Int) - (t : Int) - 1) / 2 = (f : Int) by omega]
  refine ⟨n, t + 1, rfl, by rw [show (t : Int) + 1 = ((t + 1 : Nat) : Int) by omega], by omega, by omega, by omega, by omega, ?_⟩
  walk_at "law x"
  refine fl_law_due_1 (L := lotsP (t + 1) n 0) (e := fun r => .d (tupI r)) (by rw [List.map_map]; rfl) (fun d S => S = st ∧ ∀ hl ∈ d, f < (offL q (cvOf q hl pl) pl).length) ⟨rfl, fun _ z => by cases z⟩ ?_ ?_
  · rintro d hl r m1 m2 S hL ⟨rfl, hno⟩
    have hm : hl ∈ lotsP (t + 1) n 0 := by rw [hL]; simp
    have L := M.lot hm (Nat.le_refl _)
    have hll := (lotsP_mem.mp hm).1
    have hth := L.thru M.prime pl
    refine ⟨trivial, ?_⟩
    walk_at "law x"
    refine ⟨q, n, t, hl, pl, rfl, rfl, rfl, M, L, by omega, ?_⟩
    walk_at "law x"
    rw [List.length_map, List.length_map]
    cases e : decide (((offL q (cvOf q hl pl) pl).length : Int) ≤ (f : Int)) with
    | true =>
      have e := of_decide_eq_true e
      walk_at "law g"
      refine LcGo.map hl (fun h => .d (.int h)) (fun h => prT (h + 1, pl.getD h.toNat 0)) (by rw [List.map_map]; rfl) (sz_le (by omega)) trivial ?_ ?_
      · intro h hh N P hP
        have hb := L.low h hh
        walk_at "law x"
        rw [atI_some (by omega) (by omega)]
        walk_at "law g"
        exact hP
      · walk_at "law x"
        rw [show hl.map (fun h => prT (h + 1, pl.getD h.toNat 0)) = (hPts hl pl).map prT from by unfold hPts; rw [List.map_map]; rfl]
        refine ⟨hPts hl pl, 0, q, cvOf q hl pl, rfl, trivial, rfl, rfl, M.prime, ⟨by decide, by decide⟩, L.places pl, M.hpts L.low, hth, ?_⟩
        walk_at "law x"
        rw [allD_map]
        walk_at "law g"
        rw [pev0 hth.low (by omega)]
        exact hk _ ⟨hl, hm, by omega, rfl⟩
    | false =>
      have e := of_decide_eq_false e
      walk_at "law x"
      refine ⟨_, _, rfl, rfl, fun z hz => ?_⟩
      rcases List.mem_append.mp hz with hz | hz
      · exact hno z hz
      · rw [List.mem_singleton.mp hz]
        omega
  · rintro m1 m2 S ⟨rfl, hno⟩
    refine ⟨trivial, ?_⟩
    walk_at "law h"
    walk_at "law g"
    refine .inr fun cv ncv => ?_
    walk_at "law x"
    refine ⟨t + f + 1, t + 1, by rw [show (t : Int) + (f : Int) + 1 = ((t + f + 1 : Nat) : Int) by omega], by rw [show (t : Int) + 1 = ((t + 1 : Nat) : Int) by omega], by omega, by omega, by omega, by omega, ?_⟩
    walk_at "law x"
    refine fl_law_due_0 (L := lotsP (t + 1) (t + f + 1) 0) (e := fun r => .d (tupI r)) (by rw [List.map_map]; rfl) (fun d S' => Kp S S' ∧ S' cv = some (.l ((d.map (covD q f pl)).map Sl.d))) ⟨Kp.new (Kp.refl _) ncv, cset_same⟩ ?_ ?_
    · rintro d hl r m3 S' hL ⟨kp, hcv⟩
      have hm : hl ∈ lotsP (t + 1) (t + f + 1) 0 := by rw [hL]; simp
      have L := M.lot hm (by omega)
      have hll := (lotsP_mem.mp hm).1
      refine ⟨trivial, ?_⟩
      walk_at "law x"
      rw [hcv]
      refine ⟨rfl, ?_⟩
      walk_at "law x"
      refine ⟨q, n, t, hl, pl, rfl, rfl, rfl, M, L, by omega, ?_⟩
      walk_at "law x"
      rw [show (f : Int) + 1 = ((f + 1 : Nat) : Int) by omega, cut_take, map2_take]
      refine .inl ⟨_, rfl, ?_⟩
      walk_at "law x"
      rw [allD_map]
      walk_at "law g"
      rw [hcv]
      walk_at "law x"
      have hn := lots_sz (m := t + f + 1) (s := t + 1) (by omega) (by omega)
      rw [hL, List.length_append, List.length_cons] at hn
      refine ⟨sz_le (by rw [List.length_map, List.length_map]; omega), ?_⟩
      refine ⟨_, rfl, Fx.new kp ncv, ?_⟩
      rw [sset_same, List.map_append, List.map_append]
      rfl
    · rintro m3 S' ⟨kp, hcv⟩
      refine ⟨trivial, ?_⟩
      walk_at "law h"
      walk_at "law g"
      exact hk2 hno S' cv kp ncv hcv

def wp_law_number : DWP := wp1 fun a st k _ => ∃ i : Int, a = .d (.int i) ∧ k (.d (.bool true)) st
def t_law_number : DTS := (dRet (dAndV (dIsi .int (dVar 0)) (dNotV (dIsi .bool (dVar 0)))))
theorem pure_law_number : ∀ xs s k ke, wp_law_number xs s k ke → t_law_number { nx := fun _ s' => k (.d .none) s', rt := k } (startD ["_law_item"] xs) s := by
  intro xs st k ke h
  obtain ⟨a, rfl, i, rfl, hk⟩ := wp1_of h
  walk_at "law g"
  exact hk
/-- two things equal, of the same kinds all through, of so many rows within one another -/
def SameAt : Nat → Store → Sl → Sl → Prop
  | 0, _, _, _ => False
  | n + 1, st, a, b => (∃ i : Int, a = .d (.int i) ∧ b = .d (.int i)) ∨ (∃ x : Str, a = .d (.str x) ∧ b = .d (.str x)) ∨
    ∃ T xs ys, (T = Ty.list ∨ T = Ty.tuple) ∧ tyS st a = some T ∧ tyS st b = some T ∧ seqOf st a = some xs ∧ seqOf st b = some ys ∧ xs.length = ys.length ∧ xs.length ≤ 1000 ∧ ∀ (i : Nat) x y, xs[i]? = some x → ys[i]? = some y → SameAt n st x y
def wp_law_same : Nat → DWP := fun n => wp2 fun f d st k _ => SameAt n st f d ∧ k (.d (.bool true)) st
theorem none_law_same : ∀ xs s k ke, ¬ wp_law_same 0 xs s k ke := fun xs s k ke h => by
  obtain ⟨_, _, _, h, _⟩ := wp2_of h
  exact h
theorem len_law_same : ∀ n xs s k ke, wp_law_same n xs s k ke → xs.length = 2 := fun n xs s k ke h => len2 xs s k ke h
def r_law_same_0 (wpR : DWP) : DTS := (dRet (dAndV (dOp (fEq false) (dCB fLen (dCons (dVar 0) dNil)) (dCB fLen (dCons (dVar 1) dNil))) (dCB fAll (dCons (dLc (iZp (dCons (dVar 0) (dCons (dVar 1) dNil))) (gTp 2 (gCn (gN 3) (gCn (gN 4) gNl))) dYes (dCall wpR [] (fun _ _ => False) (dCons (dVar 3) (dCons (dVar 4) dNil))) [3, 4]) dNil))))
def r_law_same_1 (wpR : DWP) : DTS := (dSeq (dIfS (dOr (dB (dOp (fEq true) (dIsi .tuple (dVar 1)) (dIsi .tuple (dVar 0)))) (dB (dOp (fEq true) (dIsi .list (dVar 1)) (dIsi .list (dVar 0))))) (dRet (dC (.bool false))) dNext)
  (hold (r_law_same_0 wpR)))
def r_law_same_2 (wpR : DWP) : DTS := (dRet (dCB fAll (dCons (dLc (iSq (dVar 1)) (gN 2) dYes (dCall wpR [] (fun _ _ => False) (dCons (dOp fIx (dVar 0) (dVar 2)) (dCons (dOp fIx (dVar 1) (dVar 2)) dNil))) [2]) dNil)))
def r_law_same_3 (wpR : DWP) : DTS := (dSeq (dIfS (dB (dIsi .dict (dVar 1))) (dSeq (dIfS (dOr (dNot (dB (dIsi .dict (dVar 0)))) (dB (dOp (fEq true) (dCB fSortedU (dCons (dVar 0) dNil)) (dCB fSortedU (dCons (dVar 1) dNil))))) (dRet (dC (.bool false))) dNext)
  (hold (r_law_same_2 wpR))) dNext)
  (hold (r_law_same_1 wpR)))
def r_law_same_4 (wpR : DWP) : DTS := (dSeq (dIfS (dB (dIsi .str (dVar 1))) (dRet (dAndV (dIsi .str (dVar 0)) (dOp (fEq false) (dVar 0) (dVar 1)))) dNext)
  (hold (r_law_same_3 wpR)))
def r_law_same_5 (wpR : DWP) : DTS := (dSeq (dIfS (dB (dIsi .int (dVar 1))) (dRet (dAndV (dCall wp_law_number [] (fun _ _ => False) (dCons (dVar 0) dNil)) (dOp (fEq false) (dVar 0) (dVar 1)))) dNext)
  (hold (r_law_same_4 wpR)))
def r_law_same_6 (wpR : DWP) : DTS := (dSeq (dIfS (dB (dIsi .bool (dVar 1))) (dRet (dAndV (dIsi .bool (dVar 0)) (dOp (fEq false) (dVar 0) (dVar 1)))) dNext)
  (hold (r_law_same_5 wpR)))
def t_law_same (wpR : DWP) : DTS := (dSeq (dIfS (dB (dOp (fIsN false) (dVar 1) (dC .none))) (dRet (dOp (fIsN false) (dVar 0) (dC .none))) dNext)
  (hold (r_law_same_6 wpR)))
theorem shb (b : Bool) : SeqAt.shaped (.bool b) = true := by simp [SeqAt.shaped, PyData.canLay0, PyData.depth]
theorem ty_nov {st : Store} {a : Sl} {T : Ty} (h : tyS st a = some T) : ∀ u, a ≠ .v u := fun u z => by
  rw [z] at h
  cases h
theorem ty_non {st : Store} {a : Sl} {T : Ty} (h : tyS st a = some T) (hT : T = Ty.list ∨ T = Ty.tuple) : isN a = false := by
  unfold isN
  split
  · rcases hT with rfl | rfl <;> cases h
  · rfl
theorem stays_seq {st : Store} {a : Sl} {xs : List Sl} (h : seqOf st a = some xs) : stays a xs st := by
  unfold stays
  split
  · unfold seqOf at h
    dsimp only at h
    split at h
    · next e => cases h; exact e
    · cases h
  · trivial
theorem zip_get {us vs : List Sl} {i : Nat} {z : Sl} (h : (List.zipWith prS us vs)[i]? = some z) : ∃ x y, us[i]? = some x ∧ vs[i]? = some y ∧ z = prS x y := by
  rw [List.getElem?_zipWith] at h
  cases e : us[i]? with
  | none => rw [e] at h; simp at h
  | some x =>
    cases e' : vs[i]? with
    | none => rw [e, e'] at h; simp at h
    | some y =>
      rw [e, e'] at h
      cases h
      exact ⟨x, y, rfl, rfl, rfl⟩
theorem gTp_pr {t : DTGs} {x y : Sl} {ρ : Sls} {st : Store} {k : Sls → Store → Prop} (h : t [x, y] ρ st k) : gTp 2 t (prS x y) ρ st k := by
  unfold prS
  split
  · exact ⟨rfl, h⟩
  · exact ⟨rfl, h⟩
theorem bools_rep : ∀ n : Nat, boolsOf (((List.replicate n true).map PyData.bool).map Sl.d) = some (List.replicate n true)
  | 0 => rfl
  | n + 1 => by
    rw [List.replicate_succ, List.map_cons, List.map_cons]
    unfold boolsOf
    rw [bools_rep n]
theorem all_rep (n : Nat) : (List.replicate n true).all id = true := by simp
theorem pure_law_same : ∀ n xs s k ke, wp_law_same (n + 1) xs s k ke → t_law_same (wp_law_same n) { nx := fun _ s' => k (.d .none) s', rt := k } (startD ["_law_found", "_law_due_here", "_law_key", "_law_one", "_law_other"] xs) s := by
  intro n xs st k ke h
  obtain ⟨f, d, rfl, hx, hk⟩ := wp2_of h
  clear h
  rcases hx with ⟨i, rfl, rfl⟩ | ⟨x, rfl, rfl⟩ | ⟨T, us, vs, hT, ta, tb, sa, sb, hl, hn, hs⟩
  · walk_at "law a"
    refine ⟨i, rfl, ?_⟩
    walk_at "law x"
    rw [decide_eq_true rfl]
    exact hk
  · walk_at "law a"
    rw [decide_eq_true rfl]
    exact hk
  · walk_at "law x"
    refine ⟨ty_nov tb, ?_⟩
    rw [ty_non tb hT]
    have e1 : T.le Ty.bool = false ∧ T.le Ty.int = false ∧ T.le Ty.str = false ∧ T.le Ty.dict = false := by rcases hT with rfl | rfl <;> exact ⟨rfl, rfl, rfl, rfl⟩
    obtain ⟨e1, e2, e3, e4⟩ := e1
    walk_at "law h"
    rw [tb]
    walk_at "law x"
    rw [e1]
    walk_at "law h"
    rw [tb]
    walk_at "law x"
    rw [e2]
    walk_at "law h"
    rw [tb]
    walk_at "law x"
    rw [e3]
    walk_at "law h"
    rw [tb]
    walk_at "law x"
    rw [e4]
    walk_at "law h"
    rw [tb]
    walk_at "law x"
    rw [ta]
    walk_at "law x"
    refine ⟨⟨shb _, shb _⟩, ?_⟩
    rw [eqv_self (shb _)]
    walk_at "law x"
    rw [tb]
    walk_at "law x"
    rw [ta]
    walk_at "law x"
    refine ⟨⟨shb _, shb _⟩, ?_⟩
    rw [eqv_self (shb _)]
    walk_at "law h"
    split
    · next e => cases e; cases sa
    rotate_left
    · next e => exact e f rfl
    next e =>
    cases e
    rw [sa]
    walk_at "law x"
    split
    · next e => cases e; cases sb
    rotate_left
    · next e => exact e d rfl
    next e =>
    cases e
    rw [sb]
    walk_at "law x"
    rw [decide_eq_true (by rw [hl])]
    walk_at "law x"
    rw [sa, sb]
    dsimp only
    split
    · next ds es hd he =>
      have e : List.zipWith prD ds es = List.zipWith prS us vs := by
        rw [allD_eq hd, allD_eq he, List.zipWith_map]
        rfl
      refine ⟨(fun z => by cases z), ?_⟩
      rw [e]
      refine LcGo.inv (fun i acc S => S = st ∧ i ≤ us.length ∧ acc = ((List.replicate i true).map PyData.bool).map Sl.d) ⟨rfl, Nat.zero_le _, rfl⟩ ?_ ?_
      · rintro i z acc S hz ⟨rfl, hi, rfl⟩
        obtain ⟨x, y, hx, hy, rfl⟩ := zip_get hz
        have hi' := (List.getElem?_eq_some_iff.mp hx).1
        refine ⟨⟨stays_seq sa, stays_seq sb⟩, gTp_pr ?_⟩
        walk_at "law x"
        refine ⟨hs i x y hx hy, ?_⟩
        refine ⟨by rw [List.length_map, List.length_map, List.length_replicate]; exact sz_lt (by omega), rfl, hi', ?_⟩
        rw [List.replicate_succ', List.map_append, List.map_append]
        rfl
      · rintro acc S ⟨rfl, hi, rfl⟩
        refine ⟨⟨stays_seq sa, stays_seq sb⟩, .inl ⟨_, rfl, ?_⟩⟩
        walk_at "law x"
        rw [bools_rep]
        walk_at "law x"
        rw [all_rep]
        exact hk
    · refine ⟨(fun z => by cases z), ?_⟩
      refine LcGo.inv (fun i acc S => S = st ∧ i ≤ us.length ∧ acc = ((List.replicate i true).map PyData.bool).map Sl.d) ⟨rfl, Nat.zero_le _, rfl⟩ ?_ ?_
      · rintro i z acc S hz ⟨rfl, hi, rfl⟩
        obtain ⟨x, y, hx, hy, rfl⟩ := zip_get hz
        have hi' := (List.getElem?_eq_some_iff.mp hx).1
        refine ⟨⟨stays_seq sa, stays_seq sb⟩, gTp_pr ?_⟩
        walk_at "law x"
        refine ⟨hs i x y hx hy, ?_⟩
        refine ⟨by rw [List.length_map, List.length_map, List.length_replicate]; exact sz_lt (by omega), rfl, hi', ?_⟩
        rw [List.replicate_succ', List.map_append, List.map_append]
        rfl
      · rintro acc S ⟨rfl, hi, rfl⟩
        refine ⟨⟨stays_seq sa, stays_seq sb⟩, .inl ⟨_, rfl, ?_⟩⟩
        walk_at "law x"
        rw [bools_rep]
        walk_at "law x"
        rw [all_rep]
        exact hk

def comps12 : List (Int × Int × Int) := [(5, 3, 1), (5, 4, 1), (7, 3, 1), (7, 5, 2), (7, 6, 2), (11, 7, 3), (13, 5, 2), (31, 7, 1), (7, 6, 1)]
theorem comps12_ok {q n t : Int} (h : (q, n, t) ∈ comps12) : ∃ a b : Nat, n = a ∧ t = b ∧ q ∈ nine ∧ (a : Int) < q ∧ a ≤ 7 ∧ 1 ≤ b ∧ b ≤ 3 ∧ 2 * b < a := by
  simp only [comps12, List.mem_cons, List.not_mem_nil, or_false, Prod.mk.injEq] at h
  rcases h with ⟨rfl, rfl, rfl⟩ | ⟨rfl, rfl, rfl⟩ | ⟨rfl, rfl, rfl⟩ | ⟨rfl, rfl, rfl⟩ | ⟨rfl, rfl, rfl⟩ | ⟨rfl, rfl, rfl⟩ | ⟨rfl, rfl, rfl⟩ | ⟨rfl, rfl, rfl⟩ | ⟨rfl, rfl, rfl⟩
  · exact ⟨3, 1, rfl, rfl, by decide, by decide, by decide, by decide, by decide, by decide⟩
  · exact ⟨4, 1, rfl, rfl, by decide, by decide, by decide, by decide, by decide, by decide⟩
  · exact ⟨3, 1, rfl, rfl, by decide, by decide, by decide, by decide, by decide, by decide⟩
  · exact ⟨5, 2, rfl, rfl, by decide, by decide, by decide, by decide, by decide, by decide⟩
  · exact ⟨6, 2, rfl, rfl, by decide, by decide, by decide, by decide, by decide, by decide⟩
  · exact ⟨7, 3, rfl, rfl, by decide, by decide, by decide, by decide, by decide, by decide⟩
  · exact ⟨5, 2, rfl, rfl, by decide, by decide, by decide, by decide, by decide, by decide⟩
  · exact ⟨7, 1, rfl, rfl, by decide, by decide, by decide, by decide, by decide, by decide⟩
  · exact ⟨6, 1, rfl, rfl, by decide, by decide, by decide, by decide, by decide, by decide⟩
def wp_law_companies : DWP := wp0 fun st k _ => k (.d (.list (comps12.map coC))) st
def t_law_companies : DTS := (dRet (dLst (dCons (dTup2 (dCons (dC (.int 5)) (dCons (dC (.int 3)) (dCons (dC (.int 1)) dNil)))) (dCons (dTup2 (dCons (dC (.int 5)) (dCons (dC (.int 4)) (dCons (dC (.int 1)) dNil)))) (dCons (dTup2 (dCons (dC (.int 7)) (dCons (dC (.int 3)) (dCons (dC (.int 1)) dNil)))) (dCons (dTup2 (dCons (dC (.int 7)) (dCons (dC (.int 5)) (dCons (dC (.int 2)) dNil)))) (dCons (dTup2 (dCons (dC (.int 7)) (dCons (dC (.int 6)) (dCons (dC (.int 2)) dNil)))) (dCons (dTup2 (dCons (dC (.int 11)) (dCons (dC (.int 7)) (dCons (dC (.int 3)) dNil)))) (dCons (dTup2 (dCons (dC (.int 13)) (dCons (dC (.int 5)) (dCons (dC (.int 2)) dNil)))) (dCons (dTup2 (dCons (dC (.int 31)) (dCons (dC (.int 7)) (dCons (dC (.int 1)) dNil)))) (dCons (dTup2 (dCons (dC (.int 7)) (dCons (dC (.int 6)) (dCons (dC (.int 1)) dNil)))) dNil)))))))))))
theorem pure_law_companies : ∀ xs s k ke, wp_law_companies xs s k ke → t_law_companies { nx := fun _ s' => k (.d .none) s', rt := k } (startD [] xs) s := by
  intro xs st k ke h
  obtain ⟨rfl, h⟩ := wp0_of h
  walk_at "law g"
  exact .inl ⟨comps12.map coC, rfl, h⟩
/-! ### what is told is what is due -/
section
variable {q : Int} {n t f : Nat} {pl : List Int}
theorem lots_sub {s m k : Nat} {hl : List Int} (h : hl ∈ lotsP s m 0) (hk : m ≤ k) : hl ∈ lotsP s k 0 := by
  obtain ⟨h1, h2, h3⟩ := lotsP_mem.mp h
  exact lotsP_mem.mpr ⟨h1, h2, fun x hx => by have := h3 x hx; omega⟩
theorem Mend.cv (M : Mend q n t pl) {hl : List Int} (h : hl ∈ lotsP (t + 1) n 0) : (cvOf q hl pl).length = t + 1 ∧ ∀ x ∈ cvOf q hl pl, 0 ≤ x ∧ x < q := by
  have ht := (M.lot h (Nat.le_refl _)).thru M.prime pl
  exact ⟨by rw [ht.num]; unfold hPts; rw [List.length_map]; exact (lotsP_mem.mp h).1, ht.low⟩
theorem num_one (M : Mend q n t pl) (hf : f = (n - t - 1) / 2) {D D' : PyData} (h : IsNum q n t f pl D) (h' : IsNum q n t f pl D') : D' = D := by
  obtain ⟨hl, m, o, rfl⟩ := h
  obtain ⟨hl', m', o', rfl⟩ := h'
  have c := M.cv m
  have c' := M.cv m'
  have := M.tn
  have := M.len
  have := M.nq
  rw [one_curve M.prime (by omega) M.low c.1 c'.1 c.2 c'.2 o o' (by omega)]
theorem num_no (h : NoNum q n t f pl) {D : PyData} (h' : IsNum q n t f pl D) : False := by
  obtain ⟨hl, m, o, _⟩ := h'
  have := h hl m
  omega
theorem early_num (M : Mend q n t pl) (hf : f = (n - t - 1) / 2) {hl : List Int} (h : hl ∈ lotsP (t + 1) (t + f + 1) 0) (o : (offL q (cvOf q hl pl) pl).length ≤ f) : IsNum q n t f pl (numD ((cvOf q hl pl).getD 0 0) (offL q (cvOf q hl pl) pl)) := by
  have := M.tn
  exact ⟨hl, lots_sub h (by omega), o, rfl⟩
theorem early_no (M : Mend q n t pl) (hf : f = (n - t - 1) / 2) (h : ∀ hl ∈ lotsP (t + 1) (t + f + 1) 0, f < (offL q (cvOf q hl pl) pl).length) : NoNum q n t f pl := fun hl m => by
  refine Classical.byContradiction fun z => ?_
  have := M.tn
  have := M.len
  have := M.nq
  have c := M.cv m
  obtain ⟨hl', m', e⟩ := early_lot M.prime (f := f) (m := t + f + 1) (by omega) M.low c.1 c.2 (by omega) (by omega) (by omega)
  have := h hl' m'
  rw [e] at this
  omega
end
/-! ### what is the same -/
theorem SameAt.ints {n : Nat} {st : Store} {ns : List Int} (h : ns.length ≤ 1000) : SameAt (n + 2) st (.d (tupI ns)) (.d (tupI ns)) := by
  refine .inr (.inr ⟨Ty.tuple, (ns.map PyData.int).map Sl.d, _, .inr rfl, rfl, rfl, rfl, rfl, rfl, by rw [List.length_map, List.length_map]; exact h, fun i x y hx hy => ?_⟩)
  rw [hx] at hy
  cases hy
  obtain ⟨m, _, rfl⟩ := get_ints hx
  exact .inl ⟨m, rfl, rfl⟩
theorem SameAt.num {n : Nat} {st : Store} {y : Int} {off : List Int} (h : off.length ≤ 1000) : SameAt (n + 3) st (.d (numD y off)) (.d (numD y off)) := by
  refine .inr (.inr ⟨Ty.tuple, [.d (.str "number"), .d (.int y), .d (tupI off)], [.d (.str "number"), .d (.int y), .d (tupI off)], .inr rfl, rfl, rfl, rfl, rfl, rfl, by show 3 ≤ 1000; decide, fun i x y hx hy => ?_⟩)
  rw [hx] at hy
  cases hy
  match i, hx with
  | 0, hx => cases hx; exact .inr (.inl ⟨_, rfl, rfl⟩)
  | 1, hx => cases hx; exact .inl ⟨_, rfl, rfl⟩
  | 2, hx => cases hx; exact SameAt.ints h
theorem SameAt.cov {n : Nat} {st : Store} {c c' : Addr} {q : Int} {f : Nat} {pl : List Int} {ls : List (List Int)} (h : st c = some (.l ((ls.map (covD q f pl)).map Sl.d))) (h' : st c' = some (.l ((ls.map (covD q f pl)).map Sl.d))) (hl : ls.length ≤ 1000) (hm : ∀ l ∈ ls, l.length ≤ 1000) (ho : f ≤ 900) :
    SameAt (n + 5) st (mkT [.d (.str "none"), .o c]) (mkT [.d (.str "none"), .o c']) := by
  refine .inr (.inr ⟨Ty.tuple, [.d (.str "none"), .o c], [.d (.str "none"), .o c'], .inr rfl, rfl, rfl, rfl, rfl, rfl, by show 2 ≤ 1000; decide, fun i x y hx hy => ?_⟩)
  match i, hx, hy with
  | 0, hx, hy =>
    cases hx
    cases hy
    exact .inr (.inl ⟨_, rfl, rfl⟩)
  | 1, hx, hy =>
    cases hx
    cases hy
    refine .inr (.inr ⟨Ty.list, _, _, .inl rfl, by unfold tyS; dsimp only; rw [h], by unfold tyS; dsimp only; rw [h'], seq_s h, seq_s h', rfl, by rw [List.length_map, List.length_map]; exact hl, fun i x y hx hy => ?_⟩)
    rw [hx] at hy
    cases hy
    rw [List.getElem?_map, List.getElem?_map] at hx
    cases e : ls[i]? with
    | none => rw [e] at hx; cases hx
    | some l =>
      rw [e] at hx
      cases hx
      refine .inr (.inr ⟨Ty.tuple, [.d (tupI l), .d (tupI ((offL q (cvOf q l pl) pl).take (f + 1)))], [.d (tupI l), .d (tupI ((offL q (cvOf q l pl) pl).take (f + 1)))], .inr rfl, rfl, rfl, rfl, rfl, rfl, by show 2 ≤ 1000; decide, fun i x y hx hy => ?_⟩)
      rw [hx] at hy
      cases hy
      match i, hx with
      | 0, hx => cases hx; exact SameAt.ints (hm l (List.mem_of_getElem? e))
      | 1, hx => cases hx; exact SameAt.ints (by rw [List.length_take]; omega)
theorem mend_at {q : Int} {n t : Nat} {pl : List Int} {h : Nat} {o : Int} (M : Mend q n t pl) (hh : h < n) (h0 : 0 ≤ o) (h1 : o < q) : Mend q n t (pl.take h ++ [o] ++ pl.drop (h + 1)) := by
  refine ⟨M.prime, M.nq, M.n7, M.t1, M.t3, M.tn, ?_, fun p hp => ?_⟩
  · have := M.len
    rw [List.length_append, List.length_append, List.length_take, List.length_drop]
    show min h pl.length + 1 + _ = n
    omega
  · rcases List.mem_append.mp hp with hp | hp
    · rcases List.mem_append.mp hp with hp | hp
      · exact M.low p (List.mem_of_mem_take hp)
      · rw [List.mem_singleton.mp hp]
        exact ⟨h0, h1⟩
    · exact M.low p (List.mem_of_mem_drop hp)
/-- a store where what is due stands -/
def DueAt (q : Int) (n t f : Nat) (pl : List Int) (S : Store) (x : Sl) : Prop := (∃ D, IsNum q n t f pl D ∧ x = .d D) ∨ (NoNum q n t f pl ∧ ∃ c, S c = some (.l (((lotsP (t + 1) (t + f + 1) 0).map (covD q f pl)).map Sl.d)) ∧ x = mkT [.d (.str "none"), .o c])
theorem DueAt.kp {q : Int} {n t f : Nat} {pl : List Int} {S S' : Store} {x : Sl} (h : DueAt q n t f pl S x) (k : Kp S S') : DueAt q n t f pl S' x := by
  rcases h with h | ⟨h, c, hc, e⟩
  · exact .inl h
  · exact .inr ⟨h, c, k.at hc, e⟩
theorem DueAt.same {q : Int} {n t f : Nat} {pl : List Int} {S : Store} {x y : Sl} (M : Mend q n t pl) (hf : f = (n - t - 1) / 2) (hx : DueAt q n t f pl S x) (hy : DueAt q n t f pl S y) : SameAt 6 S x y := by
  have := M.n7
  have := M.tn
  have := M.t3
  have := M.len
  rcases hx with ⟨D, hD, rfl⟩ | ⟨h, c, hc, rfl⟩
  · rcases hy with ⟨D', hD', rfl⟩ | ⟨h, c, hc, rfl⟩
    · rw [num_one M hf hD hD']
      obtain ⟨hl, _, o, rfl⟩ := hD
      exact SameAt.num (n := 3) (by omega)
    · exact (num_no h hD).elim
  · rcases hy with ⟨D', hD', rfl⟩ | ⟨h', c', hc', rfl⟩
    · exact (num_no h hD').elim
    · have hn := lots_sz (m := t + f + 1) (s := t + 1) (by omega) (by omega)
      exact SameAt.cov (n := 1) hc hc' (by omega) (fun l hl => by have := (lotsP_mem.mp hl).1; omega) (by omega)
def r_law_0 : DTS := (dRet (dC (.bool true)))
def r_law_1 : DTS := (dIfS (dNot (dB (dCall (wp_law_same 6) [] (fun _ _ => False) (dCons (dCallK wp_mended [1, 0] (fun _ _ => False) (dCons (dVar 7) (dCons (dVar 3) dNil))) (dCons (dVar 12) dNil))))) (dRet (dC (.bool false))) dNext)
def r_law_2 : DTS := (dSeq (dIfS (dB (dOp (fEq false) (dOp fIx (dVar 13) (dC (.int 0))) (dC (.str "none")))) (dDrop (dOM fClr (dOp fIx (dVar 13) (dC (.int 1))) dNil)) dNext)
  (hold r_law_1))
def r_law_3 : DTS := (dSeq (dAsg (dCB fRepr (dCons (dVar 7) dNil)) (gN 11))
  (dSeq (dAsg (dCall wp_law_due [] (fun _ _ => False) (dCons (dVar 3) (dCons (dVar 7) dNil))) (gN 12))
  (dSeq (dAsg (dCall wp_mended [] (fun _ _ => False) (dCons (dVar 3) (dCons (dVar 7) dNil))) (gN 13))
  (dSeq (dIfS (dOr (dNot (dB (dCall (wp_law_same 6) [] (fun _ _ => False) (dCons (dVar 13) (dCons (dVar 12) dNil))))) (dB (dOp (fEq true) (dCB fRepr (dCons (dVar 7) dNil)) (dVar 11)))) (dRet (dC (.bool false))) dNext)
  (hold r_law_2)))))
def b_law_0 : DTS := (dSeq (dAsg (dCall wp_law_draw [] (fun _ _ => False) (dCons (dVar 1) (dCons (dVar 5) dNil))) (gN 9))
  (dSeq (dAsg (dOp fMod (dOp fAdd (dOp fAdd (dOp fIx (dVar 7) (dVar 9)) (dC (.int 1))) (dCall wp_law_draw [] (fun _ _ => False) (dCons (dVar 1) (dCons (dOp fSub (dVar 4) (dC (.int 1))) dNil)))) (dVar 4)) (gN 10))
  (dAsg (dOp fAdd (dOp fAdd (dSl (dVar 7) dNoP (dPt (dVar 9))) (dTup2 (dCons (dVar 10) dNil))) (dSl (dVar 7) (dPt (dOp fAdd (dVar 9) (dC (.int 1)))) dNoP)) (gN 7))))
theorem fl_law_0 {α : Type} {L : List α} {e : α → Sl} {D : DEnds} {xs : List Sl} {stay : Store → Prop} {st : Store} {v_script v_pen_here v_turn v_group v_prime v_hands v_few v_some v_k v_hand v_other v_kept v_due_here v_found : Option Sl} (hL : xs = L.map e) (I : List α → Option Sl → Store → Prop) (h0 : I [] v_some st)
    (hs : ∀ d a r (v_some' v_k' v_hand' v_other' : Option Sl) S, L = d ++ a :: r → I d v_some' S → stay S ∧ (gN 8) (e a) [v_script, v_pen_here, v_turn, v_group, v_prime, v_hands, v_few, v_some', v_k', v_hand', v_other', v_kept, v_due_here, v_found] S fun ρ1 S1 => b_law_0 { D with nx := fun ρ' S' => ∃ v_some'' v_k'' v_hand'' v_other'', ρ' = [v_script, v_pen_here, v_turn, v_group, v_prime, v_hands, v_few, v_some'', v_k'', v_hand'', v_other'', v_kept, v_due_here, v_found] ∧ I (d ++ [a]) v_some'' S', ct := fun ρ' S' => ∃ v_some'' v_k'' v_hand'' v_other'', ρ' = [v_script, v_pen_here, v_turn, v_group, v_prime, v_hands, v_few, v_some'', v_k'', v_hand'', v_other'', v_kept, v_due_here, v_found] ∧ I (d ++ [a]) v_some'' S', bk := D.nx } ρ1 S1)
    (hd : ∀ (v_some' v_k' v_hand' v_other' : Option Sl) S, I L v_some' S → stay S ∧ D.nx [v_script, v_pen_here, v_turn, v_group, v_prime, v_hands, v_few, v_some', v_k', v_hand', v_other', v_kept, v_due_here, v_found] S) : ForGo (gN 8) b_law_0 D xs stay [v_script, v_pen_here, v_turn, v_group, v_prime, v_hands, v_few, v_some, v_k, v_hand, v_other, v_kept, v_due_here, v_found] st :=
  ForGo.done L e hL (fun d ρ S => ∃ v_some' v_k' v_hand' v_other', ρ = [v_script, v_pen_here, v_turn, v_group, v_prime, v_hands, v_few, v_some', v_k', v_hand', v_other', v_kept, v_due_here, v_found] ∧ I d v_some' S) ⟨_, _, _, _, rfl, h0⟩ (fun d a r ρ S hL ⟨v_some', v_k', v_hand', v_other', eρ, hi⟩ => by subst eρ; exact hs d a r v_some' v_k' v_hand' v_other' S hL hi) fun ρ S ⟨v_some', v_k', v_hand', v_other', eρ, hi⟩ => by subst eρ; exact hd v_some' v_k' v_hand' v_other' S hi
def b_law_1 : DTS := (dSeq (dAsg (dCall wp_law_company [] (fun _ _ => False) (dCons (dVar 1) (dCons (dCall wp_law_companies [] (fun _ _ => False) dNil) dNil))) (gN 3))
  (dSeq (dAsg (dVar 3) (gTp 3 (gCn (gN 4) (gCn (gN 5) (gCn (gN 6) gNl)))))
  (dSeq (dAsg (dCall wp_law_pieces [] (fun _ _ => False) (dCons (dVar 3) (dCons (dCall wp_law_draw [] (fun _ _ => False) (dCons (dVar 1) (dCons (dVar 4) dNil))) (dCons (dCall wp_law_coins [] (fun _ _ => False) (dCons (dVar 1) (dCons (dVar 4) (dCons (dVar 6) dNil)))) dNil)))) (gN 7))
  (dSeq (dFor (iRg1 (dCons (dOp fIx (dLst (dCons (dC (.int 0)) (dCons (dC (.int 1)) (dCons (dC (.int 1)) (dCons (dC (.int 2)) (dCons (dC (.int 2)) (dCons (dC (.int 3)) (dCons (dVar 5) dNil)))))))) (dCall wp_law_draw [] (fun _ _ => False) (dCons (dVar 1) (dCons (dC (.int 7)) dNil)))) dNil)) (gN 8) b_law_0)
  (hold r_law_3)))))
theorem fl_law_1 {α : Type} {L : List α} {e : α → Sl} {D : DEnds} {xs : List Sl} {stay : Store → Prop} {st : Store} {v_script v_pen_here v_turn v_group v_prime v_hands v_few v_some v_k v_hand v_other v_kept v_due_here v_found : Option Sl} (hL : xs = L.map e) (I : List α → Store → Prop) (h0 : I [] st)
    (hs : ∀ d a r (v_turn' v_group' v_prime' v_hands' v_few' v_some' v_k' v_hand' v_other' v_kept' v_due_here' v_found' : Option Sl) S, L = d ++ a :: r → I d S → stay S ∧ (gN 2) (e a) [v_script, v_pen_here, v_turn', v_group', v_prime', v_hands', v_few', v_some', v_k', v_hand', v_other', v_kept', v_due_here', v_found'] S fun ρ1 S1 => b_law_1 { D with nx := fun ρ' S' => ∃ v_turn'' v_group'' v_prime'' v_hands'' v_few'' v_some'' v_k'' v_hand'' v_other'' v_kept'' v_due_here'' v_found'', ρ' = [v_script, v_pen_here, v_turn'', v_group'', v_prime'', v_hands'', v_few'', v_some'', v_k'', v_hand'', v_other'', v_kept'', v_due_here'', v_found''] ∧ I (d ++ [a]) S', ct := fun ρ' S' => ∃ v_turn'' v_group'' v_prime'' v_hands'' v_few'' v_some'' v_k'' v_hand'' v_other'' v_kept'' v_due_here'' v_found'', ρ' = [v_script, v_pen_here, v_turn'', v_group'', v_prime'', v_hands'', v_few'', v_some'', v_k'', v_hand'', v_other'', v_kept'', v_due_here'', v_found''] ∧ I (d ++ [a]) S', bk := D.nx } ρ1 S1)
    (hd : ∀ (v_turn' v_group' v_prime' v_hands' v_few' v_some' v_k' v_hand' v_other' v_kept' v_due_here' v_found' : Option Sl) S, I L S → stay S ∧ D.nx [v_script, v_pen_here, v_turn', v_group', v_prime', v_hands', v_few', v_some', v_k', v_hand', v_other', v_kept', v_due_here', v_found'] S) : ForGo (gN 2) b_law_1 D xs stay [v_script, v_pen_here, v_turn, v_group, v_prime, v_hands, v_few, v_some, v_k, v_hand, v_other, v_kept, v_due_here, v_found] st :=
  ForGo.done L e hL (fun d ρ S => ∃ v_turn' v_group' v_prime' v_hands' v_few' v_some' v_k' v_hand' v_other' v_kept' v_due_here' v_found', ρ = [v_script, v_pen_here, v_turn', v_group', v_prime', v_hands', v_few', v_some', v_k', v_hand', v_other', v_kept', v_due_here', v_found'] ∧ I d S) ⟨_, _, _, _, _, _, _, _, _, _, _, _, rfl, h0⟩ (fun d a r ρ S hL ⟨v_turn', v_group', v_prime', v_hands', v_few', v_some', v_k', v_hand', v_other', v_kept', v_due_here', v_found', eρ, hi⟩ => by subst eρ; exact hs d a r v_turn' v_group' v_prime' v_hands' v_few' v_some' v_k' v_hand' v_other' v_kept' v_due_here' v_found' S hL hi) fun ρ S ⟨v_turn', v_group', v_prime', v_hands', v_few', v_some', v_k', v_hand', v_other', v_kept', v_due_here', v_found', eρ, hi⟩ => by subst eρ; exact hd v_turn' v_group' v_prime' v_hands' v_few' v_some' v_k' v_hand' v_other' v_kept' v_due_here' v_found' S hi
def t_law : DTS := (dSeq (dAsg (dCall wp_law_pen [] (fun _ _ => False) (dCons (dVar 0) dNil)) (gN 1))
  (dSeq (dFor (iRg1 (dCons (dC (.int 2)) dNil)) (gN 2) b_law_1)
  (hold r_law_0)))
set_option maxHeartbeats 0 in
theorem pure_law : ∀ xs s k ke, wpLaw xs s k ke → t_law { nx := fun _ s' => k (.d .none) s', rt := k } (startD ["_law_script", "_law_pen_here", "_law_turn", "_law_group", "_law_prime", "_law_hands", "_law_few", "_law_some", "_law_k", "_law_hand", "_law_other", "_law_kept", "_law_due_here", "_law_found"] xs) s := by
  intro xs st k ke h
  obtain ⟨ns, rfl, hst, hl, hb, h⟩ := h
  walk_at "law x"
  refine ⟨ns, rfl, hl, fun p S hP _ => ?_⟩
  walk_at "law g"
  refine fl_law_1 (rngs_eq _ _) (fun d S => Pen p S) hP ?_ ?_
  · rintro d i r m1 m2 m3 m4 m5 m6 m7 m8 m9 m10 m11 m12 S hL hP
    refine ⟨trivial, ?_⟩
    walk_at "law x"
    refine ⟨p, comps12, rfl, rfl, hP, by decide, by decide, fun q n t S hc hP _ => ?_⟩
    obtain ⟨n, t, rfl, rfl, hq, hnq, hn7, ht1, ht3, htn⟩ := comps12_ok hc
    have hq5 := nine_le hq
    obtain ⟨f, hf⟩ : ∃ f, f = (n - t - 1) / 2 := ⟨_, rfl⟩
    walk_at "law g"
    refine ⟨p, q, rfl, rfl, hP, by omega, by omega, fun m S m0 m1 hP _ => ?_⟩
    walk_at "law x"
    refine ⟨p, q, t, rfl, hP, rfl, by omega, by omega, rfl, by omega, by omega, fun cs S hcs hcl hP _ => ?_⟩
    walk_at "law x"
    refine ⟨q, n, t, m, cs, rfl, rfl, rfl, by omega, by omega, by omega, by omega, ?_⟩
    walk_at "law x"
    have M0 : Mend q n t (dealL q n (m :: cs)) := ⟨hq, hnq, hn7, ht1, ht3, htn, by rw [dealL_len]; omega, dealL_low (by omega)⟩
    walk_at "law g"
    refine .inl ⟨[.int 0, .int 1, .int 1, .int 2, .int 2, .int 3, .int n], rfl, ?_⟩
    walk_at "law x"
    refine ⟨p, 7, rfl, rfl, hP, by decide, by decide, fun a S a0 a1 hP _ => ?_⟩
    walk_at "law x"
    obtain ⟨z, hz, hzm⟩ := atI_ints (ns := [0, 1, 1, 2, 2, 3, (n : Int)]) a0 a1
    rw [show ([PyData.int 0, PyData.int 1, PyData.int 1, PyData.int 2, PyData.int 2, PyData.int 3, PyData.int (n : Int)].map Sl.d) = (([0, 1, 1, 2, 2, 3, (n : Int)].map PyData.int).map Sl.d) from rfl, hz]
    have hzb : 0 ≤ z ∧ z ≤ 7 := by
      simp only [List.mem_cons, List.not_mem_nil, or_false] at hzm
      omega
    walk_at "law g"
    refine fl_law_0 (rngs_eq _ _) (fun d x S => Pen p S ∧ ∃ pl, Mend q n t pl ∧ x = some (.d (tupI pl))) ⟨hP, _, M0, rfl⟩ ?_ ?_
    · rintro d j r n1 n2 n3 n4 S hL' ⟨hP, pl, M, rfl⟩
      have hlen := M.len
      refine ⟨trivial, ?_⟩
      walk_at "law x"
      refine ⟨p, n, rfl, rfl, hP, by omega, by omega, fun h S h0 h1 hP _ => ?_⟩
      obtain ⟨h, rfl⟩ : ∃ a : Nat, h = a := ⟨h.toNat, by omega⟩
      walk_at "law x"
      rw [atI_some (by omega) (by omega)]
      walk_at "law x"
      have hx := M.low _ (List.mem_of_getElem? (getD_of (show (h : Int).toNat < pl.length by omega)))
      walk_at "law g"
      refine ⟨p, q - 1, rfl, rfl, hP, by omega, by omega, fun b S b0 b1 hP _ => ?_⟩
      walk_at "law g"
      rw [cut_take, map2_take, allD_map]
      have htk : (List.take h pl).length ≤ 7 := by rw [List.length_take]; omega
      have hdr : (List.drop (h + 1) pl).length ≤ 7 := by rw [List.length_drop]; omega
      walk_at "law g"
      rw [show (h : Int) + 1 = ((h + 1 : Nat) : Int) by omega, cut_drop, ← List.map_drop, ← List.map_drop, allD_map]
      walk_at "law g"
      refine ⟨_, _, _, _, rfl, hP, _, mend_at M (h := h) (o := (pl.getD (h : Int).toNat 0 + 1 + b) % q) (by omega) (Int.emod_nonneg _ (by omega)) (Int.emod_lt_of_pos _ (by omega)), ?_⟩
      unfold tupI
      rw [List.map_append, List.map_append]
      rfl
    · rintro n1 n2 n3 n4 S ⟨hP, pl, M, rfl⟩
      have hlen := M.len
      refine ⟨trivial, ?_⟩
      walk_at "law h"
      refine ⟨repT_ints (fun x hx => by have := M.low x hx; omega) (by omega), ?_⟩
      walk_at "law x"
      refine ⟨q, n, t, f, pl, rfl, rfl, M, hf, fun D hD => ?_, fun hno S1 c kp nc hc => ?_⟩
      · have hx : DueAt q n t f pl S (.d D) := .inl ⟨D, hD, rfl⟩
        generalize Sl.d D = x at hx ⊢
        walk_at "law x"
        refine ⟨q, n, t, f, pl, rfl, rfl, M, hf, fun hl hm ho S2 kp2 => ?_, fun hE S2 c2 kp2 nc2 hc2 => ?_⟩
        · replace hP := hP.fx kp2 (by simp)
          replace hx := hx.kp kp2
          walk_at "law x"
          refine ⟨DueAt.same M hf (.inl ⟨_, early_num M hf hm ho, rfl⟩) hx, ?_⟩
          walk_at "law x"
          refine ⟨repT_ints (fun x hx => by have := M.low x hx; omega) (by omega), ?_⟩
          walk_at "law x"
          rw [decide_eq_true rfl]
          walk_at "law h"
          walk_at "law h"
          refine ⟨rfl, ?_⟩
          walk_at "law x"
          refine ⟨q, n, t, f, pl, rfl, rfl, M, hf, fun hl hm ho S9 kp9 => ?_, fun hE S9 c9 kp9 nc9 hc9 => ?_⟩
          · replace hP := hP.fx kp9 (by simp)
            replace hx := hx.kp kp9
            walk_at "law x"
            refine ⟨DueAt.same M hf (.inl ⟨_, early_num M hf hm ho, rfl⟩) hx, ?_⟩
            walk_at "law x"
            exact ⟨_, _, _, _, _, _, _, _, _, _, _, _, rfl, hP⟩
          · replace hP := hP.fx kp9 (by simp)
            replace hx := hx.kp kp9
            walk_at "law x"
            refine ⟨DueAt.same M hf (.inr ⟨early_no M hf hE, c9, hc9, rfl⟩) hx, ?_⟩
            walk_at "law x"
            exact ⟨_, _, _, _, _, _, _, _, _, _, _, _, rfl, hP⟩
        · have hx2 := hx.kp kp2
          walk_at "law x"
          refine ⟨DueAt.same M hf (.inr ⟨early_no M hf hE, c2, hc2, rfl⟩) hx2, ?_⟩
          walk_at "law x"
          refine ⟨repT_ints (fun x hx => by have := M.low x hx; omega) (by omega), ?_⟩
          walk_at "law x"
          rw [decide_eq_true rfl]
          walk_at "law h"
          rw [hc2]
          refine ⟨rfl, ?_⟩
          walk_at "law x"
          rw [hc2]
          walk_at "law x"
          have kp3 := Fx.new kp2 nc2 (c := .l [])
          replace hx := hx.kp kp3
          replace hP := hP.fx kp3 (by simp)
          walk_at "law h"
          refine ⟨rfl, ?_⟩
          walk_at "law x"
          refine ⟨q, n, t, f, pl, rfl, rfl, M, hf, fun hl hm ho S9 kp9 => ?_, fun hE S9 c9 kp9 nc9 hc9 => ?_⟩
          · replace hP := hP.fx kp9 (by simp)
            replace hx := hx.kp kp9
            walk_at "law x"
            refine ⟨DueAt.same M hf (.inl ⟨_, early_num M hf hm ho, rfl⟩) hx, ?_⟩
            walk_at "law x"
            exact ⟨_, _, _, _, _, _, _, _, _, _, _, _, rfl, hP⟩
          · replace hP := hP.fx kp9 (by simp)
            replace hx := hx.kp kp9
            walk_at "law x"
            refine ⟨DueAt.same M hf (.inr ⟨early_no M hf hE, c9, hc9, rfl⟩) hx, ?_⟩
            walk_at "law x"
            exact ⟨_, _, _, _, _, _, _, _, _, _, _, _, rfl, hP⟩
      · have hx : DueAt q n t f pl S1 (mkT [.d (.str "none"), .o c]) := .inr ⟨hno, c, hc, rfl⟩
        generalize mkT [.d (.str "none"), .o c] = x at hx ⊢
        replace hP := hP.fx kp (by simp)
        walk_at "law x"
        refine ⟨q, n, t, f, pl, rfl, rfl, M, hf, fun hl hm ho S2 kp2 => ?_, fun hE S2 c2 kp2 nc2 hc2 => ?_⟩
        · replace hP := hP.fx kp2 (by simp)
          replace hx := hx.kp kp2
          walk_at "law x"
          refine ⟨DueAt.same M hf (.inl ⟨_, early_num M hf hm ho, rfl⟩) hx, ?_⟩
          walk_at "law x"
          refine ⟨repT_ints (fun x hx => by have := M.low x hx; omega) (by omega), ?_⟩
          walk_at "law x"
          rw [decide_eq_true rfl]
          walk_at "law h"
          walk_at "law h"
          refine ⟨rfl, ?_⟩
          walk_at "law x"
          refine ⟨q, n, t, f, pl, rfl, rfl, M, hf, fun hl hm ho S9 kp9 => ?_, fun hE S9 c9 kp9 nc9 hc9 => ?_⟩
          · replace hP := hP.fx kp9 (by simp)
            replace hx := hx.kp kp9
            walk_at "law x"
            refine ⟨DueAt.same M hf (.inl ⟨_, early_num M hf hm ho, rfl⟩) hx, ?_⟩
            walk_at "law x"
            exact ⟨_, _, _, _, _, _, _, _, _, _, _, _, rfl, hP⟩
          · replace hP := hP.fx kp9 (by simp)
            replace hx := hx.kp kp9
            walk_at "law x"
            refine ⟨DueAt.same M hf (.inr ⟨early_no M hf hE, c9, hc9, rfl⟩) hx, ?_⟩
            walk_at "law x"
            exact ⟨_, _, _, _, _, _, _, _, _, _, _, _, rfl, hP⟩
        · have hx2 := hx.kp kp2
          walk_at "law x"
          refine ⟨DueAt.same M hf (.inr ⟨early_no M hf hE, c2, hc2, rfl⟩) hx2, ?_⟩
          walk_at "law x"
          refine ⟨repT_ints (fun x hx => by have := M.low x hx; omega) (by omega), ?_⟩
          walk_at "law x"
          rw [decide_eq_true rfl]
          walk_at "law h"
          rw [hc2]
          refine ⟨rfl, ?_⟩
          walk_at "law x"
          rw [hc2]
          walk_at "law x"
          have kp3 := Fx.new kp2 nc2 (c := .l [])
          replace hx := hx.kp kp3
          replace hP := hP.fx kp3 (by simp)
          walk_at "law h"
          refine ⟨rfl, ?_⟩
          walk_at "law x"
          refine ⟨q, n, t, f, pl, rfl, rfl, M, hf, fun hl hm ho S9 kp9 => ?_, fun hE S9 c9 kp9 nc9 hc9 => ?_⟩
          · replace hP := hP.fx kp9 (by simp)
            replace hx := hx.kp kp9
            walk_at "law x"
            refine ⟨DueAt.same M hf (.inl ⟨_, early_num M hf hm ho, rfl⟩) hx, ?_⟩
            walk_at "law x"
            exact ⟨_, _, _, _, _, _, _, _, _, _, _, _, rfl, hP⟩
          · replace hP := hP.fx kp9 (by simp)
            replace hx := hx.kp kp9
            walk_at "law x"
            refine ⟨DueAt.same M hf (.inr ⟨early_no M hf hE, c9, hc9, rfl⟩) hx, ?_⟩
            walk_at "law x"
            exact ⟨_, _, _, _, _, _, _, _, _, _, _, _, rfl, hP⟩
  · rintro m1 m2 m3 m4 m5 m6 m7 m8 m9 m10 m11 m12 S hP
    refine ⟨trivial, ?_⟩
    walk_at "law h"
    exact h S
def topS (i : Nat) : Stmt := PySem.Challenge.pw_mutehands_k12_false_pieces_found.main.body.getD i (.Pass ⟨0, 0, 0, 0⟩)
abbrev s_law_fresh : Stmt := topS 15
abbrev s_law_draw : Stmt := topS 16
abbrev s_law_coins : Stmt := topS 21
abbrev s_law_companies : Stmt := topS 18
abbrev s_law_company : Stmt := topS 17
abbrev s_law_turned : Stmt := topS 24
abbrev s_law_at : Stmt := topS 25
abbrev s_law_lots : Stmt := topS 26
abbrev s_law_off : Stmt := topS 27
abbrev s_law_due : Stmt := topS 28
abbrev s_law_pen : Stmt := topS 14
abbrev s_law_piece : Stmt := topS 22
abbrev s_law_pieces : Stmt := topS 23
abbrev s_law_number : Stmt := topS 19
abbrev s_law_same : Stmt := topS 20
abbrev s_turned : Stmt := topS 4
abbrev s_with_nought : Stmt := topS 6
abbrev s_worth : Stmt := topS 5
abbrev s_through : Stmt := topS 7
abbrev s_curve_of : Stmt := topS 9
abbrev s_lots_of : Stmt := topS 11
abbrev s_off_hands : Stmt := topS 10
abbrev s_mended : Stmt := topS 12
abbrev s_law : Stmt := topS 29
theorem sc_law_fresh : FnScope ["_law_pen_here", "_law_at_here", "_law_cell", "_law_p", "_law_one", "_law_found", "_law_turn"] ["_law_pen_here"] (defScope s_law_fresh) := ⟨rfl, rfl, rfl, by decide +kernel, rfl, by decide +kernel, by decide +kernel⟩
theorem sc_law_draw : FnScope ["_law_pen_here", "_law_many", "_law_digit"] ["_law_pen_here", "_law_many"] (defScope s_law_draw) := ⟨rfl, rfl, rfl, by decide +kernel, rfl, by decide +kernel, by decide +kernel⟩
theorem sc_law_coins : FnScope ["_law_pen_here", "_law_prime", "_law_many", "_law_k"] ["_law_pen_here", "_law_prime", "_law_many"] (defScope s_law_coins) := ⟨rfl, rfl, rfl, by decide +kernel, rfl, by decide +kernel, by decide +kernel⟩
theorem sc_law_companies : FnScope [] [] (defScope s_law_companies) := ⟨rfl, rfl, rfl, by decide +kernel, rfl, by decide +kernel, by decide +kernel⟩
theorem sc_law_company : FnScope ["_law_pen_here", "_law_some"] ["_law_pen_here", "_law_some"] (defScope s_law_company) := ⟨rfl, rfl, rfl, by decide +kernel, rfl, by decide +kernel, by decide +kernel⟩
theorem sc_law_turned : FnScope ["_law_amount", "_law_prime", "_law_one"] ["_law_amount", "_law_prime"] (defScope s_law_turned) := ⟨rfl, rfl, rfl, by decide +kernel, rfl, by decide +kernel, by decide +kernel⟩
theorem sc_law_at : FnScope ["_law_points", "_law_x", "_law_prime", "_law_found", "_law_place", "_law_amount", "_law_part", "_law_other", "_law_much"] ["_law_points", "_law_x", "_law_prime"] (defScope s_law_at) := ⟨rfl, rfl, rfl, by decide +kernel, rfl, by decide +kernel, by decide +kernel⟩
theorem sc_law_lots : FnScope ["_law_many", "_law_some", "_law_lots_here", "_law_hand", "_law_lot"] ["_law_many", "_law_some"] (defScope s_law_lots) := ⟨rfl, rfl, rfl, by decide +kernel, rfl, by decide +kernel, by decide +kernel⟩
theorem sc_law_off : FnScope ["_law_group", "_law_lot", "_law_some", "_law_points", "_law_hand"] ["_law_group", "_law_lot", "_law_some"] (defScope s_law_off) := ⟨rfl, rfl, rfl, by decide +kernel, rfl, by decide +kernel, by decide +kernel⟩
theorem sc_law_due : FnScope ["_law_group", "_law_some", "_law_prime", "_law_hands", "_law_few", "_law_slack", "_law_lot", "_law_off_here", "_law_cover", "_law_hand"] ["_law_group", "_law_some"] (defScope s_law_due) := ⟨rfl, rfl, rfl, by decide +kernel, rfl, by decide +kernel, by decide +kernel⟩
theorem sc_law_pen : FnScope ["_law_script"] ["_law_script"] (defScope s_law_pen) := ⟨rfl, rfl, rfl, by decide +kernel, rfl, by decide +kernel, by decide +kernel⟩
theorem sc_law_piece : FnScope ["_law_amount", "_law_cash", "_law_place", "_law_prime", "_law_found", "_law_coin"] ["_law_amount", "_law_cash", "_law_place", "_law_prime"] (defScope s_law_piece) := ⟨rfl, rfl, rfl, by decide +kernel, rfl, by decide +kernel, by decide +kernel⟩
theorem sc_law_pieces : FnScope ["_law_group", "_law_amount", "_law_cash", "_law_hand"] ["_law_group", "_law_amount", "_law_cash"] (defScope s_law_pieces) := ⟨rfl, rfl, rfl, by decide +kernel, rfl, by decide +kernel, by decide +kernel⟩
theorem sc_law_number : FnScope ["_law_item"] ["_law_item"] (defScope s_law_number) := ⟨rfl, rfl, rfl, by decide +kernel, rfl, by decide +kernel, by decide +kernel⟩
theorem sc_law_same : FnScope ["_law_found", "_law_due_here", "_law_key", "_law_one", "_law_other"] ["_law_found", "_law_due_here"] (defScope s_law_same) := ⟨rfl, rfl, rfl, by decide +kernel, rfl, by decide +kernel, by decide +kernel⟩
theorem sc_turned : FnScope ["number", "prime", "other"] ["number", "prime"] (defScope s_turned) := ⟨rfl, rfl, rfl, by decide +kernel, rfl, by decide +kernel, by decide +kernel⟩
theorem sc_with_nought : FnScope ["curve", "place", "prime", "longer", "at", "number"] ["curve", "place", "prime"] (defScope s_with_nought) := ⟨rfl, rfl, rfl, by decide +kernel, rfl, by decide +kernel, by decide +kernel⟩
theorem sc_worth : FnScope ["curve", "x", "prime", "found", "number"] ["curve", "x", "prime"] (defScope s_worth) := ⟨rfl, rfl, rfl, by decide +kernel, rfl, by decide +kernel, by decide +kernel⟩
theorem sc_through : FnScope ["points", "prime", "places", "at", "place", "found", "nought", "number", "gap", "times", "one", "other"] ["points", "prime"] (defScope s_through) := ⟨rfl, rfl, rfl, by decide +kernel, rfl, by decide +kernel, by decide +kernel⟩
theorem sc_curve_of : FnScope ["company", "hands", "pieces", "hand"] ["company", "hands", "pieces"] (defScope s_curve_of) := ⟨rfl, rfl, rfl, by decide +kernel, rfl, by decide +kernel, by decide +kernel⟩
theorem sc_lots_of : FnScope ["many", "some", "least", "found", "hand", "rest"] ["many", "some", "least"] (defScope s_lots_of) := ⟨rfl, rfl, rfl, by decide +kernel, rfl, by decide +kernel, by decide +kernel⟩
theorem sc_off_hands : FnScope ["company", "curve", "pieces", "hand", "piece"] ["company", "curve", "pieces"] (defScope s_off_hands) := ⟨rfl, rfl, rfl, by decide +kernel, rfl, by decide +kernel, by decide +kernel⟩
theorem sc_mended : FnScope ["company", "pieces", "prime", "many", "few", "slack", "cover", "some", "curve", "off"] ["company", "pieces"] (defScope s_mended) := ⟨rfl, rfl, rfl, by decide +kernel, rfl, by decide +kernel, by decide +kernel⟩
theorem sc_law : FnScope ["_law_script", "_law_pen_here", "_law_turn", "_law_group", "_law_prime", "_law_hands", "_law_few", "_law_some", "_law_k", "_law_hand", "_law_other", "_law_kept", "_law_due_here", "_law_found"] ["_law_script"] (defScope s_law) := ⟨rfl, rfl, rfl, by decide +kernel, rfl, by decide +kernel, by decide +kernel⟩
/-- what the top has left -/
structure Txt (K : PySem.W.Frag) (mg : Str → Option Value) where
  m_all : mg "all" = none
  m_bool : mg "bool" = none
  m_dict : mg "dict" = none
  m_enumerate : mg "enumerate" = none
  m_int : mg "int" = none
  m_isinstance : mg "isinstance" = none
  m_len : mg "len" = none
  m_list : mg "list" = none
  m_range : mg "range" = none
  m_repr : mg "repr" = none
  m_sorted : mg "sorted" = none
  m_str : mg "str" = none
  m_tuple : mg "tuple" = none
  m_zip : mg "zip" = none
  f_law_fresh : Addr
  fd_law_fresh : FuncData
  F_law_fresh : Fun K "_law_fresh" "_law_fresh" s_law_fresh f_law_fresh fd_law_fresh
  m_law_fresh : mg "_law_fresh" = some (.ref f_law_fresh)
  b_law_fresh : Binds K fd_law_fresh ["_law_pen_here"] []
  f_law_draw : Addr
  fd_law_draw : FuncData
  F_law_draw : Fun K "_law_draw" "_law_draw" s_law_draw f_law_draw fd_law_draw
  m_law_draw : mg "_law_draw" = some (.ref f_law_draw)
  b_law_draw : Binds K fd_law_draw ["_law_pen_here", "_law_many"] []
  f_law_coins : Addr
  fd_law_coins : FuncData
  F_law_coins : Fun K "_law_coins" "_law_coins" s_law_coins f_law_coins fd_law_coins
  m_law_coins : mg "_law_coins" = some (.ref f_law_coins)
  b_law_coins : Binds K fd_law_coins ["_law_pen_here", "_law_prime", "_law_many"] []
  f_law_companies : Addr
  fd_law_companies : FuncData
  F_law_companies : Fun K "_law_companies" "_law_companies" s_law_companies f_law_companies fd_law_companies
  m_law_companies : mg "_law_companies" = some (.ref f_law_companies)
  b_law_companies : Binds K fd_law_companies [] []
  f_law_company : Addr
  fd_law_company : FuncData
  F_law_company : Fun K "_law_company" "_law_company" s_law_company f_law_company fd_law_company
  m_law_company : mg "_law_company" = some (.ref f_law_company)
  b_law_company : Binds K fd_law_company ["_law_pen_here", "_law_some"] []
  f_law_turned : Addr
  fd_law_turned : FuncData
  F_law_turned : Fun K "_law_turned" "_law_turned" s_law_turned f_law_turned fd_law_turned
  m_law_turned : mg "_law_turned" = some (.ref f_law_turned)
  b_law_turned : Binds K fd_law_turned ["_law_amount", "_law_prime"] []
  f_law_at : Addr
  fd_law_at : FuncData
  F_law_at : Fun K "_law_at" "_law_at" s_law_at f_law_at fd_law_at
  m_law_at : mg "_law_at" = some (.ref f_law_at)
  b_law_at : Binds K fd_law_at ["_law_points", "_law_x", "_law_prime"] []
  f_law_lots : Addr
  fd_law_lots : FuncData
  F_law_lots : Fun K "_law_lots" "_law_lots" s_law_lots f_law_lots fd_law_lots
  m_law_lots : mg "_law_lots" = some (.ref f_law_lots)
  b_law_lots : Binds K fd_law_lots ["_law_many", "_law_some"] []
  f_law_off : Addr
  fd_law_off : FuncData
  F_law_off : Fun K "_law_off" "_law_off" s_law_off f_law_off fd_law_off
  m_law_off : mg "_law_off" = some (.ref f_law_off)
  b_law_off : Binds K fd_law_off ["_law_group", "_law_lot", "_law_some"] []
  f_law_due : Addr
  fd_law_due : FuncData
  F_law_due : Fun K "_law_due" "_law_due" s_law_due f_law_due fd_law_due
  m_law_due : mg "_law_due" = some (.ref f_law_due)
  b_law_due : Binds K fd_law_due ["_law_group", "_law_some"] []
  f_law_pen : Addr
  fd_law_pen : FuncData
  F_law_pen : Fun K "_law_pen" "_law_pen" s_law_pen f_law_pen fd_law_pen
  m_law_pen : mg "_law_pen" = some (.ref f_law_pen)
  b_law_pen : Binds K fd_law_pen ["_law_script"] []
  f_law_piece : Addr
  fd_law_piece : FuncData
  F_law_piece : Fun K "_law_piece" "_law_piece" s_law_piece f_law_piece fd_law_piece
  m_law_piece : mg "_law_piece" = some (.ref f_law_piece)
  b_law_piece : Binds K fd_law_piece ["_law_amount", "_law_cash", "_law_place", "_law_prime"] []
  f_law_pieces : Addr
  fd_law_pieces : FuncData
  F_law_pieces : Fun K "_law_pieces" "_law_pieces" s_law_pieces f_law_pieces fd_law_pieces
  m_law_pieces : mg "_law_pieces" = some (.ref f_law_pieces)
  b_law_pieces : Binds K fd_law_pieces ["_law_group", "_law_amount", "_law_cash"] []
  f_law_number : Addr
  fd_law_number : FuncData
  F_law_number : Fun K "_law_number" "_law_number" s_law_number f_law_number fd_law_number
  m_law_number : mg "_law_number" = some (.ref f_law_number)
  b_law_number : Binds K fd_law_number ["_law_item"] []
  f_law_same : Addr
  fd_law_same : FuncData
  F_law_same : Fun K "_law_same" "_law_same" s_law_same f_law_same fd_law_same
  m_law_same : mg "_law_same" = some (.ref f_law_same)
  b_law_same : Binds K fd_law_same ["_law_found", "_law_due_here"] []
  f_turned : Addr
  fd_turned : FuncData
  F_turned : Fun K "turned" "turned" s_turned f_turned fd_turned
  m_turned : mg "turned" = some (.ref f_turned)
  b_turned : Binds K fd_turned ["number", "prime"] []
  f_with_nought : Addr
  fd_with_nought : FuncData
  F_with_nought : Fun K "with_nought" "with_nought" s_with_nought f_with_nought fd_with_nought
  m_with_nought : mg "with_nought" = some (.ref f_with_nought)
  b_with_nought : Binds K fd_with_nought ["curve", "place", "prime"] []
  f_worth : Addr
  fd_worth : FuncData
  F_worth : Fun K "worth" "worth" s_worth f_worth fd_worth
  m_worth : mg "worth" = some (.ref f_worth)
  b_worth : Binds K fd_worth ["curve", "x", "prime"] []
  f_through : Addr
  fd_through : FuncData
  F_through : Fun K "through" "through" s_through f_through fd_through
  m_through : mg "through" = some (.ref f_through)
  b_through : Binds K fd_through ["points", "prime"] []
  f_curve_of : Addr
  fd_curve_of : FuncData
  F_curve_of : Fun K "curve_of" "curve_of" s_curve_of f_curve_of fd_curve_of
  m_curve_of : mg "curve_of" = some (.ref f_curve_of)
  b_curve_of : Binds K fd_curve_of ["company", "hands", "pieces"] []
  f_lots_of : Addr
  fd_lots_of : FuncData
  F_lots_of : FunD K "lots_of" "lots_of" (defArgs s_lots_of) (defBody s_lots_of) (defScope s_lots_of) [(.int 0)] [] f_lots_of fd_lots_of
  m_lots_of : mg "lots_of" = some (.ref f_lots_of)
  bd_lots_of_2 : ∃ dus, Vals [(.int 0)] dus ∧ Binds K fd_lots_of ["many", "some", "least"] dus
  bd_lots_of_3 : ∃ dus, Vals [] dus ∧ Binds K fd_lots_of ["many", "some", "least"] dus
  f_off_hands : Addr
  fd_off_hands : FuncData
  F_off_hands : Fun K "off_hands" "off_hands" s_off_hands f_off_hands fd_off_hands
  m_off_hands : mg "off_hands" = some (.ref f_off_hands)
  b_off_hands : Binds K fd_off_hands ["company", "curve", "pieces"] []
  f_mended : Addr
  fd_mended : FuncData
  F_mended : Fun K "mended" "mended" s_mended f_mended fd_mended
  m_mended : mg "mended" = some (.ref f_mended)
  b_mended : Binds K fd_mended ["company", "pieces"] []
  kb_mended_pieces_company : KwBinds K fd_mended ["company", "pieces"] ["pieces", "company"] [1, 0]
section
variable {P : Program} {w : World} {K : PySem.W.Frag} {mg : Str → Option Value} {base : Heap}
theorem ok_law_fresh (T : Txt K mg) : FnG P w K mg base CX0 1 T.f_law_fresh T.fd_law_fresh ["_law_pen_here"] wp_law_fresh := by
  refine okG (t := t_law_fresh) T.F_law_fresh sc_law_fresh len1 (fun cdv A outer s H E hr hg => ?_) pure_law_fresh
  exact (ss_cons (s_set 1 sc_law_fresh.nd (d_ix (hu_of hr) (dv 0) d_int))
    (ss_cons (s_asg (vs := []) (d_add (dv 1) d_int) (g_sub2 (hu_of hr) (dv 0) d_int))
    (ss_cons (s_set 2 sc_law_fresh.nd d_int)
    (ss_cons (s_if (t_cmp (op_neU hr.units) r2_ne (d_ix (hu_of hr) (dv 0) d_int) (d_lst a_nil) (nomark _)) (ss_one (s_set 2 sc_law_fresh.nd (d_ix (hu_of hr) (d_ix (hu_of hr) (dv 0) d_int) (d_mod (dv 1) (d_callB call_lenU rl_len T.m_len (by decide +kernel) (a_cons (d_ix (hu_of hr) (dv 0) d_int) a_nil)))))) ss_nil)
    (ss_hold (ss_cons (s_if (PW.pt (w_and (t_cmp op_lt r2_lt (dv 1) (d_callB call_lenU rl_len T.m_len (by decide +kernel) (a_cons (d_ix (hu_of hr) (dv 0) d_int) a_nil)) (nomark _)) (w_and1 (t_cmp op_ge r2_ge (dv 2) (d_pow d_int d_int) (nomark _))))) (ss_one (s_ret (d_sub (dv 2) (d_pow d_int d_int)))) ss_nil)
    (ss_hold (ss_cons (s_set 3 sc_law_fresh.nd d_int)
    (ss_cons (s_set 4 sc_law_fresh.nd (d_mod (d_add (d_add (d_mul (dv 2) d_int) (d_mul d_int (dv 1))) d_int) (dv 3)))
    (ss_cons (s_set 5 sc_law_fresh.nd (dv 4))
    (ss_cons (s_for (vs := [6]) PassesOwn.never rfl (i_rg1 T.m_range (a_cons d_int a_nil)) (g_name 6 sc_law_fresh.nd) (ss_cons (s_set 4 sc_law_fresh.nd (d_mod (d_add (d_add (d_mul (dv 4) (dv 4)) (d_mul (d_mul d_int (d_add (dv 6) d_int)) (d_add (dv 1) d_int))) (dv 2)) (dv 3)))
    (ss_one (s_set 5 sc_law_fresh.nd (d_add (d_mul (dv 5) (dv 3)) (dv 4))))))
    (ss_hold (ss_one (s_ret (dv 5)))))))))))))))
theorem ok_law_draw (T : Txt K mg) : FnG P w K mg base CX0 2 T.f_law_draw T.fd_law_draw ["_law_pen_here", "_law_many"] wp_law_draw := by
  refine okG (t := t_law_draw) T.F_law_draw sc_law_draw len2 (fun cdv A outer s H E hr hg => ?_) pure_law_draw
  exact (ss_cons (s_if (t_cmp op_lt r2_lt (d_ix (hu_of hr) (dv 0) d_int) (dv 1) (nomark _)) (ss_one (s_asg (vs := []) (d_call (ok_law_fresh T) (hr.mono (by decide)) hg T.m_law_fresh T.F_law_fresh.kp T.b_law_fresh .nil none_slr (a_cons (dv 0) a_nil)) (g_sub2 (hu_of hr) (dv 0) d_int))) ss_nil)
    (ss_hold (ss_cons (s_set 2 sc_law_draw.nd (d_mod (d_ix (hu_of hr) (dv 0) d_int) (dv 1)))
    (ss_cons (s_asg (vs := []) (d_div (d_ix (hu_of hr) (dv 0) d_int) (dv 1)) (g_sub2 (hu_of hr) (dv 0) d_int))
    (ss_one (s_ret (dv 2)))))))
theorem ok_law_coins (T : Txt K mg) : FnG P w K mg base CX0 3 T.f_law_coins T.fd_law_coins ["_law_pen_here", "_law_prime", "_law_many"] wp_law_coins := by
  refine okG (t := t_law_coins) T.F_law_coins sc_law_coins len3 (fun cdv A outer s H E hr hg => ?_) pure_law_coins
  exact (ss_one (s_ret (d_callT call_tuple_of rl_tuple T.m_tuple (by decide +kernel) (a_cons (d_lc [("_law_k", 3)] rfl sc_law_coins.nd (i_rg1 T.m_range (a_cons (dv 2) a_nil)) (blkOk_by (own := [("_law_k", 3)]) (N := ["_law_pen_here", "_law_prime", "_law_many", "_law_k"]) (sc := defScope s_law_coins) (by decide +kernel)) (fun _ _ _ _ _ => (g_name 3 sc_law_coins.nd)) (fun _ _ _ _ _ => ts_nil) (fun _ _ _ _ _ => (d_call (ok_law_draw T) (hr.mono (by decide)) hg T.m_law_draw T.F_law_draw.kp T.b_law_draw .nil none_slr (a_cons (dv 0) (a_cons (dv 1) a_nil))))) a_nil))))
theorem ok_law_companies (T : Txt K mg) : FnG P w K mg base CX0 1 T.f_law_companies T.fd_law_companies [] wp_law_companies := by
  refine okG (t := t_law_companies) T.F_law_companies sc_law_companies len0 (fun cdv A outer s H E hr hg => ?_) pure_law_companies
  exact (ss_one (s_ret (d_lst (a_cons (d_tup2 (a_cons d_int (a_cons d_int (a_cons d_int a_nil)))) (a_cons (d_tup2 (a_cons d_int (a_cons d_int (a_cons d_int a_nil)))) (a_cons (d_tup2 (a_cons d_int (a_cons d_int (a_cons d_int a_nil)))) (a_cons (d_tup2 (a_cons d_int (a_cons d_int (a_cons d_int a_nil)))) (a_cons (d_tup2 (a_cons d_int (a_cons d_int (a_cons d_int a_nil)))) (a_cons (d_tup2 (a_cons d_int (a_cons d_int (a_cons d_int a_nil)))) (a_cons (d_tup2 (a_cons d_int (a_cons d_int (a_cons d_int a_nil)))) (a_cons (d_tup2 (a_cons d_int (a_cons d_int (a_cons d_int a_nil)))) (a_cons (d_tup2 (a_cons d_int (a_cons d_int (a_cons d_int a_nil)))) a_nil))))))))))))
theorem ok_law_company (T : Txt K mg) : FnG P w K mg base CX0 3 T.f_law_company T.fd_law_company ["_law_pen_here", "_law_some"] wp_law_company := by
  refine okG (t := t_law_company) T.F_law_company sc_law_company len2 (fun cdv A outer s H E hr hg => ?_) pure_law_company
  exact (ss_one (s_ret (d_ix (hu_of hr) (dv 1) (d_call (ok_law_draw T) (hr.mono (by decide)) hg T.m_law_draw T.F_law_draw.kp T.b_law_draw .nil none_slr (a_cons (dv 0) (a_cons (d_callB call_lenU rl_len T.m_len (by decide +kernel) (a_cons (dv 1) a_nil)) a_nil))))))
theorem ok_law_turned (T : Txt K mg) : FnG P w K mg base CX0 1 T.f_law_turned T.fd_law_turned ["_law_amount", "_law_prime"] wp_law_turned := by
  refine okG (t := t_law_turned) T.F_law_turned sc_law_turned len2 (fun cdv A outer s H E hr hg => ?_) pure_law_turned
  exact (ss_one (s_ret (d_ix (hu_of hr) (d_lc [("_law_one", 2)] rfl sc_law_turned.nd (i_rg2 T.m_range (a_cons d_int (a_cons (dv 1) a_nil))) (blkOk_by (own := [("_law_one", 2)]) (N := ["_law_amount", "_law_prime", "_law_one"]) (sc := defScope s_law_turned) (by decide +kernel)) (fun _ _ _ _ _ => (g_name 2 sc_law_turned.nd)) (fun _ _ _ _ _ => (ts_one (t_cmp (op_eqU hr.units) r2_eq (d_mod (d_mul (dv 2) (dv 0)) (dv 1)) d_int (nomark _)))) (fun _ _ _ _ _ => (dv 2))) d_int)))
theorem ok_law_at (T : Txt K mg) : FnG P w K mg base CX0 2 T.f_law_at T.fd_law_at ["_law_points", "_law_x", "_law_prime"] wp_law_at := by
  refine okG (t := t_law_at) T.F_law_at sc_law_at len3 (fun cdv A outer s H E hr hg => ?_) pure_law_at
  exact (ss_cons (s_set 3 sc_law_at.nd d_int)
    (ss_cons (s_for (vs := [4, 5]) PassesOwn.never rfl (i_seq (dv 0)) (g_tup rfl (g_cons (g_name 4 sc_law_at.nd) (g_cons (g_name 5 sc_law_at.nd) g_nil))) (ss_cons (s_set 6 sc_law_at.nd (dv 5))
    (ss_cons (s_for (vs := [7, 8]) PassesOwn.never rfl (i_seq (dv 0)) (g_tup rfl (g_cons (g_name 7 sc_law_at.nd) (g_cons (g_name 8 sc_law_at.nd) g_nil))) (ss_one (s_if (t_cmp (op_neU hr.units) r2_ne (dv 7) (dv 4) (nomark _)) (ss_one (s_set 6 sc_law_at.nd (d_mod (d_mul (d_mul (dv 6) (d_sub (dv 1) (dv 7))) (d_call (ok_law_turned T) (hr.mono (by decide)) hg T.m_law_turned T.F_law_turned.kp T.b_law_turned .nil none_slr (a_cons (d_mod (d_sub (dv 4) (dv 7)) (dv 2)) (a_cons (dv 2) a_nil)))) (dv 2)))) ss_nil)))
    (ss_hold (ss_one (s_set 3 sc_law_at.nd (d_add (dv 3) (dv 6))))))))
    (ss_hold (ss_one (s_ret (d_mod (dv 3) (dv 2)))))))
theorem ok_law_lots (T : Txt K mg) : FnG P w K mg base CX0 1 T.f_law_lots T.fd_law_lots ["_law_many", "_law_some"] wp_law_lots := by
  refine okG (t := t_law_lots) T.F_law_lots sc_law_lots len2 (fun cdv A outer s H E hr hg => ?_) pure_law_lots
  exact (ss_cons (s_set 2 sc_law_lots.nd (d_lst (a_cons (d_tup2 a_nil) a_nil)))
    (ss_cons (s_for (vs := [3]) PassesOwn.never rfl (i_rg1 T.m_range (a_cons (dv 0) a_nil)) (g_name 3 sc_law_lots.nd) (ss_one (s_set 2 sc_law_lots.nd (d_add (dv 2) (d_lc [("_law_lot", 4)] rfl sc_law_lots.nd (i_seq (dv 2)) (blkOk_by (own := [("_law_lot", 4)]) (N := ["_law_many", "_law_some", "_law_lots_here", "_law_hand", "_law_lot"]) (sc := defScope s_law_lots) (by decide +kernel)) (fun _ _ _ _ _ => (g_name 4 sc_law_lots.nd)) (fun _ _ _ _ _ => (ts_one (t_cmp op_lt r2_lt (d_callB call_lenU rl_len T.m_len (by decide +kernel) (a_cons (dv 4) a_nil)) (dv 1) (nomark _)))) (fun _ _ _ _ _ => (d_add (dv 4) (d_tup2 (a_cons (dv 3) a_nil)))))))))
    (ss_hold (ss_one (s_ret (d_callB (cr_sortedU rfl) rl_sortedU T.m_sorted (by decide +kernel) (a_cons (d_lc [("_law_lot", 4)] rfl sc_law_lots.nd (i_seq (dv 2)) (blkOk_by (own := [("_law_lot", 4)]) (N := ["_law_many", "_law_some", "_law_lots_here", "_law_hand", "_law_lot"]) (sc := defScope s_law_lots) (by decide +kernel)) (fun _ _ _ _ _ => (g_name 4 sc_law_lots.nd)) (fun _ _ _ _ _ => (ts_one (t_cmp (op_eqU hr.units) r2_eq (d_callB call_lenU rl_len T.m_len (by decide +kernel) (a_cons (dv 4) a_nil)) (dv 1) (nomark _)))) (fun _ _ _ _ _ => (dv 4))) a_nil)))))))
theorem ok_law_off (T : Txt K mg) : FnG P w K mg base CX0 3 T.f_law_off T.fd_law_off ["_law_group", "_law_lot", "_law_some"] wp_law_off := by
  refine okG (t := t_law_off) T.F_law_off sc_law_off len3 (fun cdv A outer s H E hr hg => ?_) pure_law_off
  exact (ss_cons (s_set 3 sc_law_off.nd (d_lc [("_law_hand", 4)] rfl sc_law_off.nd (i_seq (dv 1)) (blkOk_by (own := [("_law_hand", 4)]) (N := ["_law_group", "_law_lot", "_law_some", "_law_points", "_law_hand"]) (sc := defScope s_law_off) (by decide +kernel)) (fun _ _ _ _ _ => (g_name 4 sc_law_off.nd)) (fun _ _ _ _ _ => ts_nil) (fun _ _ _ _ _ => (d_tup2 (a_cons (d_add (dv 4) d_int) (a_cons (d_ix (hu_of hr) (dv 2) (dv 4)) a_nil))))))
    (ss_one (s_ret (d_lc [("_law_hand", 4)] rfl sc_law_off.nd (i_rg1 T.m_range (a_cons (d_ix (hu_of hr) (dv 0) d_int) a_nil)) (blkOk_by (own := [("_law_hand", 4)]) (N := ["_law_group", "_law_lot", "_law_some", "_law_points", "_law_hand"]) (sc := defScope s_law_off) (by decide +kernel)) (fun _ _ _ _ _ => (g_name 4 sc_law_off.nd)) (fun _ _ _ _ _ => (ts_one (t_cmp (op_neU hr.units) r2_ne (d_call (ok_law_at T) (hr.mono (by decide)) hg T.m_law_at T.F_law_at.kp T.b_law_at .nil none_slr (a_cons (dv 3) (a_cons (d_add (dv 4) d_int) (a_cons (d_ix (hu_of hr) (dv 0) d_int) a_nil)))) (d_ix (hu_of hr) (dv 2) (dv 4)) (nomark _)))) (fun _ _ _ _ _ => (dv 4))))))
theorem ok_law_due (T : Txt K mg) : FnG P w K mg base CX0 4 T.f_law_due T.fd_law_due ["_law_group", "_law_some"] wp_law_due := by
  refine okG (t := t_law_due) T.F_law_due sc_law_due len2 (fun cdv A outer s H E hr hg => ?_) pure_law_due
  exact (ss_cons (s_asg (vs := [2, 3, 4]) (dv 0) (g_tup rfl (g_cons (g_name 2 sc_law_due.nd) (g_cons (g_name 3 sc_law_due.nd) (g_cons (g_name 4 sc_law_due.nd) g_nil)))))
    (ss_cons (s_set 5 sc_law_due.nd (d_div (d_sub (d_sub (dv 3) (dv 4)) d_int) d_int))
    (ss_cons (s_for (vs := [6]) PassesOwn.never rfl (i_seq (d_call (ok_law_lots T) (hr.mono (by decide)) hg T.m_law_lots T.F_law_lots.kp T.b_law_lots .nil none_slr (a_cons (dv 3) (a_cons (d_add (dv 4) d_int) a_nil)))) (g_name 6 sc_law_due.nd) (ss_cons (s_set 7 sc_law_due.nd (d_call (ok_law_off T) (hr.mono (by decide)) hg T.m_law_off T.F_law_off.kp T.b_law_off .nil none_slr (a_cons (dv 0) (a_cons (dv 6) (a_cons (dv 1) a_nil)))))
    (ss_one (s_if (t_cmp op_le r2_le (d_callB call_lenU rl_len T.m_len (by decide +kernel) (a_cons (dv 7) a_nil)) (dv 5) (nomark _)) (ss_one (s_ret (d_tup2 (a_cons d_str (a_cons (d_call (ok_law_at T) (hr.mono (by decide)) hg T.m_law_at T.F_law_at.kp T.b_law_at .nil none_slr (a_cons (d_lc [("_law_hand", 9)] rfl sc_law_due.nd (i_seq (dv 6)) (blkOk_by (own := [("_law_hand", 9)]) (N := ["_law_group", "_law_some", "_law_prime", "_law_hands", "_law_few", "_law_slack", "_law_lot", "_law_off_here", "_law_cover", "_law_hand"]) (sc := defScope s_law_due) (by decide +kernel)) (fun _ _ _ _ _ => (g_name 9 sc_law_due.nd)) (fun _ _ _ _ _ => ts_nil) (fun _ _ _ _ _ => (d_tup2 (a_cons (d_add (dv 9) d_int) (a_cons (d_ix (hu_of hr) (dv 1) (dv 9)) a_nil))))) (a_cons d_int (a_cons (dv 2) a_nil)))) (a_cons (d_callT call_tuple_of rl_tuple T.m_tuple (by decide +kernel) (a_cons (dv 7) a_nil)) a_nil)))))) ss_nil))))
    (ss_hold (ss_cons (s_set 8 sc_law_due.nd (d_lst a_nil))
    (ss_cons (s_for (vs := [6]) PassesOwn.never rfl (i_seq (d_call (ok_law_lots T) (hr.mono (by decide)) hg T.m_law_lots T.F_law_lots.kp T.b_law_lots .nil none_slr (a_cons (d_add (d_add (dv 4) (dv 5)) d_int) (a_cons (d_add (dv 4) d_int) a_nil)))) (g_name 6 sc_law_due.nd) (ss_one (s_drop (d_om PySem.F.slot_list_append PySem.F.type_list_append mt_append rm_app (dv 8) (a_cons (d_tup2 (a_cons (dv 6) (a_cons (d_callT call_tuple_of rl_tuple T.m_tuple (by decide +kernel) (a_cons (d_sl (d_call (ok_law_off T) (hr.mono (by decide)) hg T.m_law_off T.F_law_off.kp T.b_law_off .nil none_slr (a_cons (dv 0) (a_cons (dv 6) (a_cons (dv 1) a_nil)))) o_none (o_some (d_add (dv 5) d_int))) a_nil)) a_nil))) a_nil)))))
    (ss_hold (ss_one (s_ret (d_tup2 (a_cons d_str (a_cons (dv 8) a_nil))))))))))))
theorem ok_law_pen (T : Txt K mg) : FnG P w K mg base CX0 1 T.f_law_pen T.fd_law_pen ["_law_script"] wp_law_pen := by
  refine okG (t := t_law_pen) T.F_law_pen sc_law_pen len1 (fun cdv A outer s H E hr hg => ?_) pure_law_pen
  exact (ss_one (s_ret (d_lst (a_cons (d_callT call_list_of rl_list T.m_list (by decide +kernel) (a_cons (d_sl (dv 0) o_none (o_some d_int)) a_nil)) (a_cons d_int (a_cons d_int a_nil))))))
theorem ok_law_piece (T : Txt K mg) : FnG P w K mg base CX0 1 T.f_law_piece T.fd_law_piece ["_law_amount", "_law_cash", "_law_place", "_law_prime"] wp_law_piece := by
  refine okG (t := t_law_piece) T.F_law_piece sc_law_piece len4 (fun cdv A outer s H E hr hg => ?_) pure_law_piece
  exact (ss_cons (s_set 4 sc_law_piece.nd d_int)
    (ss_cons (s_for (vs := [5]) PassesOwn.never rfl (i_seq (d_rev (dv 1))) (g_name 5 sc_law_piece.nd) (ss_one (s_set 4 sc_law_piece.nd (d_mod (d_add (d_mul (dv 4) (dv 2)) (dv 5)) (dv 3)))))
    (ss_hold (ss_one (s_ret (d_mod (d_add (d_mul (dv 4) (dv 2)) (dv 0)) (dv 3)))))))
theorem ok_law_pieces (T : Txt K mg) : FnG P w K mg base CX0 2 T.f_law_pieces T.fd_law_pieces ["_law_group", "_law_amount", "_law_cash"] wp_law_pieces := by
  refine okG (t := t_law_pieces) T.F_law_pieces sc_law_pieces len3 (fun cdv A outer s H E hr hg => ?_) pure_law_pieces
  exact (ss_one (s_ret (d_callT call_tuple_of rl_tuple T.m_tuple (by decide +kernel) (a_cons (d_lc [("_law_hand", 3)] rfl sc_law_pieces.nd (i_rg1 T.m_range (a_cons (d_ix (hu_of hr) (dv 0) d_int) a_nil)) (blkOk_by (own := [("_law_hand", 3)]) (N := ["_law_group", "_law_amount", "_law_cash", "_law_hand"]) (sc := defScope s_law_pieces) (by decide +kernel)) (fun _ _ _ _ _ => (g_name 3 sc_law_pieces.nd)) (fun _ _ _ _ _ => ts_nil) (fun _ _ _ _ _ => (d_call (ok_law_piece T) (hr.mono (by decide)) hg T.m_law_piece T.F_law_piece.kp T.b_law_piece .nil none_slr (a_cons (dv 1) (a_cons (dv 2) (a_cons (d_add (dv 3) d_int) (a_cons (d_ix (hu_of hr) (dv 0) d_int) a_nil))))))) a_nil))))
theorem ok_law_number (T : Txt K mg) : FnG P w K mg base CX0 1 T.f_law_number T.fd_law_number ["_law_item"] wp_law_number := by
  refine okG (t := t_law_number) T.F_law_number sc_law_number len1 (fun cdv A outer s H E hr hg => ?_) pure_law_number
  exact (ss_one (s_ret (d_and (d_isi .int T.m_isinstance T.m_int (by decide +kernel) (dv 0)) (d_one (d_not (d_isi .bool T.m_isinstance T.m_bool (by decide +kernel) (dv 0)))))))
theorem ok_law_same (T : Txt K mg) : ∀ n : Nat, FnG P w K mg base CX0 (2 + n) T.f_law_same T.fd_law_same ["_law_found", "_law_due_here"] (wp_law_same n)
  | 0 => FnG.none none_law_same
  | n + 1 => by
    have ih := ok_law_same T n
    refine okG (lv := 2 + n) (t := t_law_same (wp_law_same n)) T.F_law_same sc_law_same (len_law_same (n + 1)) (fun cdv A outer s H E hr hg => ?_) (pure_law_same n)
    exact (ss_cons (s_if (t_cmp op_isN r2_isN (dv 1) d_non (nomark _)) (ss_one (s_ret (d_cmp op_isN r2_isN (dv 0) d_non (nomark _)))) ss_nil)
    (ss_hold (ss_cons (s_if (t_val (d_isi .bool T.m_isinstance T.m_bool (by decide +kernel) (dv 1))) (ss_one (s_ret (d_and (d_isi .bool T.m_isinstance T.m_bool (by decide +kernel) (dv 0)) (d_one (d_cmp (op_eqU hr.units) r2_eq (dv 0) (dv 1) (nomark _)))))) ss_nil)
    (ss_hold (ss_cons (s_if (t_val (d_isi .int T.m_isinstance T.m_int (by decide +kernel) (dv 1))) (ss_one (s_ret (d_and (d_call (ok_law_number T) (hr.mono (by omega)) hg T.m_law_number T.F_law_number.kp T.b_law_number .nil none_slr (a_cons (dv 0) a_nil)) (d_one (d_cmp (op_eqU hr.units) r2_eq (dv 0) (dv 1) (nomark _)))))) ss_nil)
    (ss_hold (ss_cons (s_if (t_val (d_isi .str T.m_isinstance T.m_str (by decide +kernel) (dv 1))) (ss_one (s_ret (d_and (d_isi .str T.m_isinstance T.m_str (by decide +kernel) (dv 0)) (d_one (d_cmp (op_eqU hr.units) r2_eq (dv 0) (dv 1) (nomark _)))))) ss_nil)
    (ss_hold (ss_cons (s_if (t_val (d_isi .dict T.m_isinstance T.m_dict (by decide +kernel) (dv 1))) (ss_cons (s_if (PW.pt (w_or (t_not (t_val (d_isi .dict T.m_isinstance T.m_dict (by decide +kernel) (dv 0)))) (w_or1 (t_cmp (op_neU hr.units) r2_ne (d_callB (cr_sortedU rfl) rl_sortedU T.m_sorted (by decide +kernel) (a_cons (dv 0) a_nil)) (d_callB (cr_sortedU rfl) rl_sortedU T.m_sorted (by decide +kernel) (a_cons (dv 1) a_nil)) (nomark _))))) (ss_one (s_ret d_bl)) ss_nil)
    (ss_hold (ss_one (s_ret (d_callB (cr_all rfl) rl_all T.m_all (by decide +kernel) (a_cons (d_lc [("_law_key", 2)] rfl sc_law_same.nd (i_seq (dv 1)) (blkOk_by (own := [("_law_key", 2)]) (N := ["_law_found", "_law_due_here", "_law_key", "_law_one", "_law_other"]) (sc := defScope s_law_same) (by decide +kernel)) (fun _ _ _ _ _ => (g_name 2 sc_law_same.nd)) (fun _ _ _ _ _ => ts_nil) (fun _ _ _ _ _ => (d_call ih (hr.mono (by omega)) hg T.m_law_same T.F_law_same.kp T.b_law_same .nil none_slr (a_cons (d_ix (hu_of hr) (dv 0) (dv 2)) (a_cons (d_ix (hu_of hr) (dv 1) (dv 2)) a_nil))))) a_nil)))))) ss_nil)
    (ss_hold (ss_cons (s_if (PW.pt (w_or (t_cmp (op_neU hr.units) r2_ne (d_isi .tuple T.m_isinstance T.m_tuple (by decide +kernel) (dv 1)) (d_isi .tuple T.m_isinstance T.m_tuple (by decide +kernel) (dv 0)) (nomark _)) (w_or1 (t_cmp (op_neU hr.units) r2_ne (d_isi .list T.m_isinstance T.m_list (by decide +kernel) (dv 1)) (d_isi .list T.m_isinstance T.m_list (by decide +kernel) (dv 0)) (nomark _))))) (ss_one (s_ret d_bl)) ss_nil)
    (ss_hold (ss_one (s_ret (d_and (d_cmp (op_eqU hr.units) r2_eq (d_callB call_lenU rl_len T.m_len (by decide +kernel) (a_cons (dv 0) a_nil)) (d_callB call_lenU rl_len T.m_len (by decide +kernel) (a_cons (dv 1) a_nil)) (nomark _)) (d_one (d_callB (cr_all rfl) rl_all T.m_all (by decide +kernel) (a_cons (d_lc [("_law_one", 3), ("_law_other", 4)] rfl sc_law_same.nd (i_zip T.m_zip (a_cons (dv 0) (a_cons (dv 1) a_nil))) (blkOk_by (own := [("_law_one", 3), ("_law_other", 4)]) (N := ["_law_found", "_law_due_here", "_law_key", "_law_one", "_law_other"]) (sc := defScope s_law_same) (by decide +kernel)) (fun _ _ _ _ _ => (g_tup rfl (g_cons (g_name 3 sc_law_same.nd) (g_cons (g_name 4 sc_law_same.nd) g_nil)))) (fun _ _ _ _ _ => ts_nil) (fun _ _ _ _ _ => (d_call ih (hr.mono (by omega)) hg T.m_law_same T.F_law_same.kp T.b_law_same .nil none_slr (a_cons (dv 3) (a_cons (dv 4) a_nil))))) a_nil))))))))))))))))))
theorem ok_turned (T : Txt K mg) : FnG P w K mg base CX0 1 T.f_turned T.fd_turned ["number", "prime"] wp_turned := by
  refine okG (t := t_turned) T.F_turned sc_turned len2 (fun cdv A outer s H E hr hg => ?_) pure_turned
  exact (ss_cons (s_if (t_cmp (op_eqU hr.units) r2_eq (dv 0) d_int (nomark _)) (ss_one s_never) ss_nil)
    (ss_hold (ss_one (s_ret (d_ix (hu_of hr) (d_lc [("other", 2)] rfl sc_turned.nd (i_rg2 T.m_range (a_cons d_int (a_cons (dv 1) a_nil))) (blkOk_by (own := [("other", 2)]) (N := ["number", "prime", "other"]) (sc := defScope s_turned) (by decide +kernel)) (fun _ _ _ _ _ => (g_name 2 sc_turned.nd)) (fun _ _ _ _ _ => (ts_one (t_cmp (op_eqU hr.units) r2_eq (d_mod (d_mul (dv 0) (dv 2)) (dv 1)) d_int (nomark _)))) (fun _ _ _ _ _ => (dv 2))) d_int)))))
theorem ok_with_nought (T : Txt K mg) : FnG P w K mg base CX0 1 T.f_with_nought T.fd_with_nought ["curve", "place", "prime"] wp_with_nought := by
  refine okG (t := t_with_nought) T.F_with_nought sc_with_nought len3 (fun cdv A outer s H E hr hg => ?_) pure_with_nought
  exact (ss_cons (s_set 3 sc_with_nought.nd (d_add (d_lst (a_cons d_int a_nil)) (d_callT call_list_of rl_list T.m_list (by decide +kernel) (a_cons (dv 0) a_nil))))
    (ss_cons (s_for (vs := [4, 5]) PassesOwn.never rfl (i_enumT T.m_enumerate (a_cons (dv 0) a_nil)) (g_tup rfl (g_cons (g_name 4 sc_with_nought.nd) (g_cons (g_name 5 sc_with_nought.nd) g_nil))) (ss_one (s_asg (vs := []) (d_mod (d_sub (d_ix (hu_of hr) (dv 3) (dv 4)) (d_mul (dv 5) (dv 1))) (dv 2)) (g_sub2 (hu_of hr) (dv 3) (dv 4)))))
    (ss_hold (ss_one (s_ret (dv 3))))))
theorem ok_worth (T : Txt K mg) : FnG P w K mg base CX0 1 T.f_worth T.fd_worth ["curve", "x", "prime"] wp_worth := by
  refine okG (t := t_worth) T.F_worth sc_worth len3 (fun cdv A outer s H E hr hg => ?_) pure_worth
  exact (ss_cons (s_set 3 sc_worth.nd d_int)
    (ss_cons (s_for (vs := [4]) PassesOwn.never rfl (i_seq (d_rev (dv 0))) (g_name 4 sc_worth.nd) (ss_one (s_set 3 sc_worth.nd (d_mod (d_add (d_mul (dv 3) (dv 1)) (dv 4)) (dv 2)))))
    (ss_hold (ss_one (s_ret (dv 3))))))
theorem ok_through (T : Txt K mg) : FnG P w K mg base CX0 2 T.f_through T.fd_through ["points", "prime"] wp_through := by
  refine okG (t := t_through) T.F_through sc_through len2 (fun cdv A outer s H E hr hg => ?_) pure_through
  exact (ss_cons (s_setLc 2 [("place", 4), ("number", 7)] rfl sc_through.nd (i_seq (dv 0)) (blkOk_by (own := [("place", 4), ("number", 7)]) (N := ["points", "prime", "places", "at", "place", "found", "nought", "number", "gap", "times", "one", "other"]) (sc := defScope s_through) (by decide +kernel)) (fun _ _ _ _ _ => (g_tup rfl (g_cons (g_name 4 sc_through.nd) (g_cons (g_name 7 sc_through.nd) g_nil)))) (fun _ _ _ _ _ => ts_nil) (fun _ _ _ _ _ => (dv 4)))
    (ss_cons (s_for (vs := [3, 4]) PassesOwn.never rfl (i_enumT T.m_enumerate (a_cons (dv 2) a_nil)) (g_tup rfl (g_cons (g_name 3 sc_through.nd) (g_cons (g_name 4 sc_through.nd) g_nil))) (ss_one (s_if (t_cmp (op_inU (hu_of hr)) (r2_in false) (dv 4) (d_sl (dv 2) o_none (o_some (dv 3))) (by with_unfolding_all rfl)) (ss_one s_never) ss_nil)))
    (ss_hold (ss_cons (s_set 5 sc_through.nd (d_lst a_nil))
    (ss_cons (s_set 6 sc_through.nd (d_lst (a_cons d_int a_nil)))
    (ss_cons (s_for (vs := [4, 7]) PassesOwn.never rfl (i_seq (dv 0)) (g_tup rfl (g_cons (g_name 4 sc_through.nd) (g_cons (g_name 7 sc_through.nd) g_nil))) (ss_cons (s_set 8 sc_through.nd (d_mod (d_sub (dv 7) (d_call (ok_worth T) (hr.mono (by decide)) hg T.m_worth T.F_worth.kp T.b_worth .nil none_slr (a_cons (dv 5) (a_cons (dv 4) (a_cons (dv 1) a_nil))))) (dv 1)))
    (ss_cons (s_set 9 sc_through.nd (d_mod (d_mul (dv 8) (d_call (ok_turned T) (hr.mono (by decide)) hg T.m_turned T.F_turned.kp T.b_turned .nil none_slr (a_cons (d_call (ok_worth T) (hr.mono (by decide)) hg T.m_worth T.F_worth.kp T.b_worth .nil none_slr (a_cons (dv 6) (a_cons (dv 4) (a_cons (dv 1) a_nil)))) (a_cons (dv 1) a_nil)))) (dv 1)))
    (ss_cons (s_setLc 5 [("one", 10), ("other", 11)] rfl sc_through.nd (i_zipS T.m_zip (a_cons (d_add (dv 5) (d_lst (a_cons d_int a_nil))) (a_cons (dv 6) a_nil))) (blkOk_by (own := [("one", 10), ("other", 11)]) (N := ["points", "prime", "places", "at", "place", "found", "nought", "number", "gap", "times", "one", "other"]) (sc := defScope s_through) (by decide +kernel)) (fun _ _ _ _ _ => (g_tup rfl (g_cons (g_name 10 sc_through.nd) (g_cons (g_name 11 sc_through.nd) g_nil)))) (fun _ _ _ _ _ => ts_nil) (fun _ _ _ _ _ => (d_mod (d_add (dv 10) (d_mul (dv 9) (dv 11))) (dv 1))))
    (ss_one (s_set 6 sc_through.nd (d_call (ok_with_nought T) (hr.mono (by decide)) hg T.m_with_nought T.F_with_nought.kp T.b_with_nought .nil none_slr (a_cons (dv 6) (a_cons (dv 4) (a_cons (dv 1) a_nil))))))))))
    (ss_hold (ss_one (s_ret (d_callT call_tuple_of rl_tuple T.m_tuple (by decide +kernel) (a_cons (dv 5) a_nil)))))))))))
theorem ok_curve_of (T : Txt K mg) : FnG P w K mg base CX0 3 T.f_curve_of T.fd_curve_of ["company", "hands", "pieces"] wp_curve_of := by
  refine okG (t := t_curve_of) T.F_curve_of sc_curve_of len3 (fun cdv A outer s H E hr hg => ?_) pure_curve_of
  exact (ss_one (s_ret (d_call (ok_through T) (hr.mono (by decide)) hg T.m_through T.F_through.kp T.b_through .nil none_slr (a_cons (d_callT call_tuple_of rl_tuple T.m_tuple (by decide +kernel) (a_cons (d_lc [("hand", 3)] rfl sc_curve_of.nd (i_seq (dv 1)) (blkOk_by (own := [("hand", 3)]) (N := ["company", "hands", "pieces", "hand"]) (sc := defScope s_curve_of) (by decide +kernel)) (fun _ _ _ _ _ => (g_name 3 sc_curve_of.nd)) (fun _ _ _ _ _ => ts_nil) (fun _ _ _ _ _ => (d_tup2 (a_cons (d_add (dv 3) d_int) (a_cons (d_ix (hu_of hr) (dv 2) (dv 3)) a_nil))))) a_nil)) (a_cons (d_ix (hu_of hr) (dv 0) d_int) a_nil)))))
theorem ok_lots_of (T : Txt K mg) : ∀ n : Nat, FnG P w K mg base CX0 (1 + n) T.f_lots_of T.fd_lots_of ["many", "some", "least"] (wp_lots_of n)
  | 0 => FnG.none none_lots_of
  | n + 1 => by
    have ih := ok_lots_of T n
    refine okD (lv := 1 + n) (t := t_lots_of (wp_lots_of n)) T.F_lots_of sc_lots_of (len_lots_of (n + 1)) (fun cdv A outer s H E hr hg => ?_) (pure_lots_of n)
    exact (ss_cons (s_if (t_cmp (op_eqU hr.units) r2_eq (dv 1) d_int (nomark _)) (ss_one (s_ret (d_lst (a_cons (d_tup2 a_nil) a_nil)))) ss_nil)
    (ss_hold (ss_cons (s_set 3 sc_lots_of.nd (d_lst a_nil))
    (ss_cons (s_for (vs := [4]) PassesOwn.never rfl (i_rg2 T.m_range (a_cons (dv 2) (a_cons (d_add (d_sub (dv 0) (dv 1)) d_int) a_nil))) (g_name 4 sc_lots_of.nd) (ss_one (s_drop (d_om PySem.F.slot_list_extend PySem.F.type_list_extend mt_extend rm_ext (dv 3) (a_cons (d_lc [("rest", 5)] rfl sc_lots_of.nd (i_seq (d_callD (ds := []) ih (hr.mono (by omega)) hg T.m_lots_of T.F_lots_of.kp T.bd_lots_of_3 (fun fr H => .nil) (a_cons (dv 0) (a_cons (d_sub (dv 1) d_int) (a_cons (d_add (dv 4) d_int) a_nil))))) (blkOk_by (own := [("rest", 5)]) (N := ["many", "some", "least", "found", "hand", "rest"]) (sc := defScope s_lots_of) (by decide +kernel)) (fun _ _ _ _ _ => (g_name 5 sc_lots_of.nd)) (fun _ _ _ _ _ => ts_nil) (fun _ _ _ _ _ => (d_add (d_tup2 (a_cons (dv 4) a_nil)) (dv 5)))) a_nil)))))
    (ss_hold (ss_one (s_ret (dv 3))))))))
theorem ok_off_hands (T : Txt K mg) : FnG P w K mg base CX0 2 T.f_off_hands T.fd_off_hands ["company", "curve", "pieces"] wp_off_hands := by
  refine okG (t := t_off_hands) T.F_off_hands sc_off_hands len3 (fun cdv A outer s H E hr hg => ?_) pure_off_hands
  exact (ss_one (s_ret (d_lc [("hand", 3), ("piece", 4)] rfl sc_off_hands.nd (i_enumT T.m_enumerate (a_cons (dv 2) a_nil)) (blkOk_by (own := [("hand", 3), ("piece", 4)]) (N := ["company", "curve", "pieces", "hand", "piece"]) (sc := defScope s_off_hands) (by decide +kernel)) (fun _ _ _ _ _ => (g_tup rfl (g_cons (g_name 3 sc_off_hands.nd) (g_cons (g_name 4 sc_off_hands.nd) g_nil)))) (fun _ _ _ _ _ => (ts_one (t_cmp (op_neU hr.units) r2_ne (d_call (ok_worth T) (hr.mono (by decide)) hg T.m_worth T.F_worth.kp T.b_worth .nil none_slr (a_cons (dv 1) (a_cons (d_add (dv 3) d_int) (a_cons (d_ix (hu_of hr) (dv 0) d_int) a_nil)))) (dv 4) (nomark _)))) (fun _ _ _ _ _ => (dv 3)))))
theorem ok_mended (T : Txt K mg) : FnG P w K mg base CX0 8 T.f_mended T.fd_mended ["company", "pieces"] wp_mended := by
  refine okG (t := t_mended) T.F_mended sc_mended len2 (fun cdv A outer s H E hr hg => ?_) pure_mended
  exact (ss_cons (s_asg (vs := [2, 3, 4]) (dv 0) (g_tup rfl (g_cons (g_name 2 sc_mended.nd) (g_cons (g_name 3 sc_mended.nd) (g_cons (g_name 4 sc_mended.nd) g_nil)))))
    (ss_cons (s_set 5 sc_mended.nd (d_div (d_sub (d_sub (dv 3) (dv 4)) d_int) d_int))
    (ss_cons (s_set 6 sc_mended.nd (d_lst a_nil))
    (ss_cons (s_for (vs := [7]) PassesOwn.never rfl (i_seq (d_callD (ds := [.d (.int 0)]) (ok_lots_of T 6) (hr.mono (by decide)) hg T.m_lots_of T.F_lots_of.kp T.bd_lots_of_2 (fun fr H => .cons (show SlR _ fr H _ (.d (.int 0)) from .int _) (.nil)) (a_cons (d_add (d_add (dv 4) (dv 5)) d_int) (a_cons (d_add (dv 4) d_int) a_nil)))) (g_name 7 sc_mended.nd) (ss_cons (s_set 8 sc_mended.nd (d_call (ok_curve_of T) (hr.mono (by decide)) hg T.m_curve_of T.F_curve_of.kp T.b_curve_of .nil none_slr (a_cons (dv 0) (a_cons (dv 7) (a_cons (dv 1) a_nil)))))
    (ss_cons (s_set 9 sc_mended.nd (d_callT call_tuple_of rl_tuple T.m_tuple (by decide +kernel) (a_cons (d_call (ok_off_hands T) (hr.mono (by decide)) hg T.m_off_hands T.F_off_hands.kp T.b_off_hands .nil none_slr (a_cons (dv 0) (a_cons (dv 8) (a_cons (dv 1) a_nil)))) a_nil)))
    (ss_cons (s_if (t_cmp op_le r2_le (d_callB call_lenU rl_len T.m_len (by decide +kernel) (a_cons (dv 9) a_nil)) (dv 5) (nomark _)) (ss_one (s_ret (d_tup2 (a_cons d_str (a_cons (d_ix (hu_of hr) (dv 8) d_int) (a_cons (dv 9) a_nil)))))) ss_nil)
    (ss_hold (ss_one (s_drop (d_om PySem.F.slot_list_append PySem.F.type_list_append mt_append rm_app (dv 6) (a_cons (d_tup2 (a_cons (dv 7) (a_cons (d_sl (dv 9) o_none (o_some (d_add (dv 5) d_int))) a_nil))) a_nil)))))))))
    (ss_hold (ss_one (s_ret (d_tup2 (a_cons d_str (a_cons (dv 6) a_nil))))))))))
theorem ok_law (T : Txt K mg) {f : Addr} {fd : FuncData} (F : Fun K "law" "law" s_law f fd) : FnG P w K mg base CX0 9 f fd ["_law_script"] wpLaw := by
  refine okG (t := t_law) F sc_law lenLaw (fun cdv A outer s H E hr hg => ?_) pure_law
  exact (ss_cons (s_set 1 sc_law.nd (d_call (ok_law_pen T) (hr.mono (by decide)) hg T.m_law_pen T.F_law_pen.kp T.b_law_pen .nil none_slr (a_cons (dv 0) a_nil)))
    (ss_cons (s_for (vs := [2]) PassesOwn.never rfl (i_rg1 T.m_range (a_cons d_int a_nil)) (g_name 2 sc_law.nd) (ss_cons (s_set 3 sc_law.nd (d_call (ok_law_company T) (hr.mono (by decide)) hg T.m_law_company T.F_law_company.kp T.b_law_company .nil none_slr (a_cons (dv 1) (a_cons (d_call0 (ok_law_companies T) (hr.mono (by decide)) hg T.m_law_companies T.F_law_companies.kp T.b_law_companies .nil none_slr) a_nil))))
    (ss_cons (s_asg (vs := [4, 5, 6]) (dv 3) (g_tup rfl (g_cons (g_name 4 sc_law.nd) (g_cons (g_name 5 sc_law.nd) (g_cons (g_name 6 sc_law.nd) g_nil)))))
    (ss_cons (s_set 7 sc_law.nd (d_call (ok_law_pieces T) (hr.mono (by decide)) hg T.m_law_pieces T.F_law_pieces.kp T.b_law_pieces .nil none_slr (a_cons (dv 3) (a_cons (d_call (ok_law_draw T) (hr.mono (by decide)) hg T.m_law_draw T.F_law_draw.kp T.b_law_draw .nil none_slr (a_cons (dv 1) (a_cons (dv 4) a_nil))) (a_cons (d_call (ok_law_coins T) (hr.mono (by decide)) hg T.m_law_coins T.F_law_coins.kp T.b_law_coins .nil none_slr (a_cons (dv 1) (a_cons (dv 4) (a_cons (dv 6) a_nil)))) a_nil)))))
    (ss_cons (s_for (vs := [8]) PassesOwn.never rfl (i_rg1 T.m_range (a_cons (d_ix (hu_of hr) (d_lst (a_cons d_int (a_cons d_int (a_cons d_int (a_cons d_int (a_cons d_int (a_cons d_int (a_cons (dv 5) a_nil)))))))) (d_call (ok_law_draw T) (hr.mono (by decide)) hg T.m_law_draw T.F_law_draw.kp T.b_law_draw .nil none_slr (a_cons (dv 1) (a_cons d_int a_nil)))) a_nil)) (g_name 8 sc_law.nd) (ss_cons (s_set 9 sc_law.nd (d_call (ok_law_draw T) (hr.mono (by decide)) hg T.m_law_draw T.F_law_draw.kp T.b_law_draw .nil none_slr (a_cons (dv 1) (a_cons (dv 5) a_nil))))
    (ss_cons (s_set 10 sc_law.nd (d_mod (d_add (d_add (d_ix (hu_of hr) (dv 7) (dv 9)) d_int) (d_call (ok_law_draw T) (hr.mono (by decide)) hg T.m_law_draw T.F_law_draw.kp T.b_law_draw .nil none_slr (a_cons (dv 1) (a_cons (d_sub (dv 4) d_int) a_nil)))) (dv 4)))
    (ss_one (s_set 7 sc_law.nd (d_add (d_add (d_sl (dv 7) o_none (o_some (dv 9))) (d_tup2 (a_cons (dv 10) a_nil))) (d_sl (dv 7) (o_some (d_add (dv 9) d_int)) o_none)))))))
    (ss_hold (ss_cons (s_set 11 sc_law.nd (d_callB (call_reprU hg (rm180 hr)) rl_repr T.m_repr (by decide +kernel) (a_cons (dv 7) a_nil)))
    (ss_cons (s_set 12 sc_law.nd (d_call (ok_law_due T) (hr.mono (by decide)) hg T.m_law_due T.F_law_due.kp T.b_law_due .nil none_slr (a_cons (dv 3) (a_cons (dv 7) a_nil))))
    (ss_cons (s_set 13 sc_law.nd (d_call (ok_mended T) (hr.mono (by decide)) hg T.m_mended T.F_mended.kp T.b_mended .nil none_slr (a_cons (dv 3) (a_cons (dv 7) a_nil))))
    (ss_cons (s_if (PW.pt (w_or (t_not (t_val (d_call (ok_law_same T 6) (hr.mono (by decide)) hg T.m_law_same T.F_law_same.kp T.b_law_same .nil none_slr (a_cons (dv 13) (a_cons (dv 12) a_nil))))) (w_or1 (t_cmp (op_neU hr.units) r2_ne (d_callB (call_reprU hg (rm180 hr)) rl_repr T.m_repr (by decide +kernel) (a_cons (dv 7) a_nil)) (dv 11) (nomark _))))) (ss_one (s_ret d_bl)) ss_nil)
    (ss_hold (ss_cons (s_if (t_cmp (op_eqU hr.units) r2_eq (d_ix (hu_of hr) (dv 13) d_int) d_str (nomark _)) (ss_one (s_drop (d_om0 PySem.F.slot_list_clear PySem.F.type_list_clear mt_clear rm_clr (d_ix (hu_of hr) (dv 13) d_int)))) ss_nil)
    (ss_hold (ss_one (s_if (t_not (t_val (d_call (ok_law_same T 6) (hr.mono (by decide)) hg T.m_law_same T.F_law_same.kp T.b_law_same .nil none_slr (a_cons (d_callK [1, 0] (ok_mended T) (hr.mono (by decide)) hg T.m_mended T.F_mended.kp T.kb_mended_pieces_company rfl (k_cons (dv 7) (k_cons (dv 3) k_nil))) (a_cons (dv 12) a_nil))))) (ss_one (s_ret d_bl)) ss_nil)))))))))))))))
    (ss_hold (ss_one (s_ret d_bl)))))
end
theorem all_mk {l : PySem.W.OpenLaw} {w : World} {K : PySem.W.Frag} {h : Heap} {mg : Str → Option Value} {fa f0 f1 f2 f3 f4 f5 f6 f7 f8 f9 f10 f11 f12 f13 f14 f15 f16 f17 f18 f19 f20 f21 f22 f23 : Addr} (X : K.In h) (G : h.Ns mainGlobals mg) (hfa : mg "law" = some (.ref fa))
    {T20 : Addr}
    {td20 : Option Addr}
    {ts20 : Array (Option Value)}
    {tn20 : Nat}
    {tc20 : Value}
    {tk20_least : Tok}
    {od0 an0 od1 an1 od2 an2 od3 an3 od4 an4 od5 an5 od6 an6 od7 an7 od8 an8 od9 an9 od10 an10 od11 an11 od12 an12 od13 an13 od14 an14 od15 an15 od16 an16 od17 an17 od18 an18 od19 an19 od20 an20 od21 an21 od22 an22 od23 an23 : Option Addr} {sl0 sl1 sl2 sl3 sl4 sl5 sl6 sl7 sl8 sl9 sl10 sl11 sl12 sl13 sl14 sl15 sl16 sl17 sl18 sl19 sl20 sl21 sl22 sl23 : Array (Option Value)} {oc0 kV0 dc0 pm0 cd0 ct0 oc1 kV1 dc1 pm1 cd1 ct1 oc2 kV2 dc2 pm2 cd2 ct2 oc3 kV3 dc3 pm3 cd3 ct3 oc4 kV4 dc4 pm4 cd4 ct4 oc5 kV5 dc5 pm5 cd5 ct5 oc6 kV6 dc6 pm6 cd6 ct6 oc7 kV7 dc7 pm7 cd7 ct7 oc8 kV8 dc8 pm8 cd8 ct8 oc9 kV9 dc9 pm9 cd9 ct9 oc10 kV10 dc10 pm10 cd10 ct10 oc11 kV11 dc11 pm11 cd11 ct11 oc12 kV12 dc12 pm12 cd12 ct12 oc13 kV13 dc13 pm13 cd13 ct13 oc14 kV14 dc14 pm14 cd14 ct14 oc15 kV15 dc15 pm15 cd15 ct15 oc16 kV16 dc16 pm16 cd16 ct16 oc17 kV17 dc17 pm17 cd17 ct17 oc18 kV18 dc18 pm18 cd18 ct18 oc19 kV19 dc19 pm19 cd19 ct19 oc20 kV20 dc20 pm20 cd20 ct20 oc21 kV21 dc21 pm21 cd21 ct21 oc22 kV22 dc22 pm22 cd22 ct22 oc23 kV23 dc23 pm23 cd23 ct23 : Value}
    (a0 : PySem.W.nsIn K mainGlobals "_law_fresh" = some (some (.ref f0))) (l0 : K.lookup f0 = some ⟨oc0, od0, .func (PySem.W.fnOf "_law_fresh" "_law_fresh" (defArgs s_law_fresh) (defBody s_law_fresh) (defScope s_law_fresh) .none kV0 dc0 pm0 an0 cd0 ct0), sl0⟩) (c0 : PySem.W.codeIn K cd0 "_law_fresh" = true) (k0 : PySem.W.keepIn K (.ref f0) = true)
    (a1 : PySem.W.nsIn K mainGlobals "_law_draw" = some (some (.ref f1))) (l1 : K.lookup f1 = some ⟨oc1, od1, .func (PySem.W.fnOf "_law_draw" "_law_draw" (defArgs s_law_draw) (defBody s_law_draw) (defScope s_law_draw) .none kV1 dc1 pm1 an1 cd1 ct1), sl1⟩) (c1 : PySem.W.codeIn K cd1 "_law_draw" = true) (k1 : PySem.W.keepIn K (.ref f1) = true)
    (a2 : PySem.W.nsIn K mainGlobals "_law_coins" = some (some (.ref f2))) (l2 : K.lookup f2 = some ⟨oc2, od2, .func (PySem.W.fnOf "_law_coins" "_law_coins" (defArgs s_law_coins) (defBody s_law_coins) (defScope s_law_coins) .none kV2 dc2 pm2 an2 cd2 ct2), sl2⟩) (c2 : PySem.W.codeIn K cd2 "_law_coins" = true) (k2 : PySem.W.keepIn K (.ref f2) = true)
    (a3 : PySem.W.nsIn K mainGlobals "_law_companies" = some (some (.ref f3))) (l3 : K.lookup f3 = some ⟨oc3, od3, .func (PySem.W.fnOf "_law_companies" "_law_companies" (defArgs s_law_companies) (defBody s_law_companies) (defScope s_law_companies) .none kV3 dc3 pm3 an3 cd3 ct3), sl3⟩) (c3 : PySem.W.codeIn K cd3 "_law_companies" = true) (k3 : PySem.W.keepIn K (.ref f3) = true)
    (a4 : PySem.W.nsIn K mainGlobals "_law_company" = some (some (.ref f4))) (l4 : K.lookup f4 = some ⟨oc4, od4, .func (PySem.W.fnOf "_law_company" "_law_company" (defArgs s_law_company) (defBody s_law_company) (defScope s_law_company) .none kV4 dc4 pm4 an4 cd4 ct4), sl4⟩) (c4 : PySem.W.codeIn K cd4 "_law_company" = true) (k4 : PySem.W.keepIn K (.ref f4) = true)
    (a5 : PySem.W.nsIn K mainGlobals "_law_turned" = some (some (.ref f5))) (l5 : K.lookup f5 = some ⟨oc5, od5, .func (PySem.W.fnOf "_law_turned" "_law_turned" (defArgs s_law_turned) (defBody s_law_turned) (defScope s_law_turned) .none kV5 dc5 pm5 an5 cd5 ct5), sl5⟩) (c5 : PySem.W.codeIn K cd5 "_law_turned" = true) (k5 : PySem.W.keepIn K (.ref f5) = true)
    (a6 : PySem.W.nsIn K mainGlobals "_law_at" = some (some (.ref f6))) (l6 : K.lookup f6 = some ⟨oc6, od6, .func (PySem.W.fnOf "_law_at" "_law_at" (defArgs s_law_at) (defBody s_law_at) (defScope s_law_at) .none kV6 dc6 pm6 an6 cd6 ct6), sl6⟩) (c6 : PySem.W.codeIn K cd6 "_law_at" = true) (k6 : PySem.W.keepIn K (.ref f6) = true)
    (a7 : PySem.W.nsIn K mainGlobals "_law_lots" = some (some (.ref f7))) (l7 : K.lookup f7 = some ⟨oc7, od7, .func (PySem.W.fnOf "_law_lots" "_law_lots" (defArgs s_law_lots) (defBody s_law_lots) (defScope s_law_lots) .none kV7 dc7 pm7 an7 cd7 ct7), sl7⟩) (c7 : PySem.W.codeIn K cd7 "_law_lots" = true) (k7 : PySem.W.keepIn K (.ref f7) = true)
    (a8 : PySem.W.nsIn K mainGlobals "_law_off" = some (some (.ref f8))) (l8 : K.lookup f8 = some ⟨oc8, od8, .func (PySem.W.fnOf "_law_off" "_law_off" (defArgs s_law_off) (defBody s_law_off) (defScope s_law_off) .none kV8 dc8 pm8 an8 cd8 ct8), sl8⟩) (c8 : PySem.W.codeIn K cd8 "_law_off" = true) (k8 : PySem.W.keepIn K (.ref f8) = true)
    (a9 : PySem.W.nsIn K mainGlobals "_law_due" = some (some (.ref f9))) (l9 : K.lookup f9 = some ⟨oc9, od9, .func (PySem.W.fnOf "_law_due" "_law_due" (defArgs s_law_due) (defBody s_law_due) (defScope s_law_due) .none kV9 dc9 pm9 an9 cd9 ct9), sl9⟩) (c9 : PySem.W.codeIn K cd9 "_law_due" = true) (k9 : PySem.W.keepIn K (.ref f9) = true)
    (a10 : PySem.W.nsIn K mainGlobals "_law_pen" = some (some (.ref f10))) (l10 : K.lookup f10 = some ⟨oc10, od10, .func (PySem.W.fnOf "_law_pen" "_law_pen" (defArgs s_law_pen) (defBody s_law_pen) (defScope s_law_pen) .none kV10 dc10 pm10 an10 cd10 ct10), sl10⟩) (c10 : PySem.W.codeIn K cd10 "_law_pen" = true) (k10 : PySem.W.keepIn K (.ref f10) = true)
    (a11 : PySem.W.nsIn K mainGlobals "_law_piece" = some (some (.ref f11))) (l11 : K.lookup f11 = some ⟨oc11, od11, .func (PySem.W.fnOf "_law_piece" "_law_piece" (defArgs s_law_piece) (defBody s_law_piece) (defScope s_law_piece) .none kV11 dc11 pm11 an11 cd11 ct11), sl11⟩) (c11 : PySem.W.codeIn K cd11 "_law_piece" = true) (k11 : PySem.W.keepIn K (.ref f11) = true)
    (a12 : PySem.W.nsIn K mainGlobals "_law_pieces" = some (some (.ref f12))) (l12 : K.lookup f12 = some ⟨oc12, od12, .func (PySem.W.fnOf "_law_pieces" "_law_pieces" (defArgs s_law_pieces) (defBody s_law_pieces) (defScope s_law_pieces) .none kV12 dc12 pm12 an12 cd12 ct12), sl12⟩) (c12 : PySem.W.codeIn K cd12 "_law_pieces" = true) (k12 : PySem.W.keepIn K (.ref f12) = true)
    (a13 : PySem.W.nsIn K mainGlobals "_law_number" = some (some (.ref f13))) (l13 : K.lookup f13 = some ⟨oc13, od13, .func (PySem.W.fnOf "_law_number" "_law_number" (defArgs s_law_number) (defBody s_law_number) (defScope s_law_number) .none kV13 dc13 pm13 an13 cd13 ct13), sl13⟩) (c13 : PySem.W.codeIn K cd13 "_law_number" = true) (k13 : PySem.W.keepIn K (.ref f13) = true)
    (a14 : PySem.W.nsIn K mainGlobals "_law_same" = some (some (.ref f14))) (l14 : K.lookup f14 = some ⟨oc14, od14, .func (PySem.W.fnOf "_law_same" "_law_same" (defArgs s_law_same) (defBody s_law_same) (defScope s_law_same) .none kV14 dc14 pm14 an14 cd14 ct14), sl14⟩) (c14 : PySem.W.codeIn K cd14 "_law_same" = true) (k14 : PySem.W.keepIn K (.ref f14) = true)
    (a15 : PySem.W.nsIn K mainGlobals "turned" = some (some (.ref f15))) (l15 : K.lookup f15 = some ⟨oc15, od15, .func (PySem.W.fnOf "turned" "turned" (defArgs s_turned) (defBody s_turned) (defScope s_turned) .none kV15 dc15 pm15 an15 cd15 ct15), sl15⟩) (c15 : PySem.W.codeIn K cd15 "turned" = true) (k15 : PySem.W.keepIn K (.ref f15) = true)
    (a16 : PySem.W.nsIn K mainGlobals "with_nought" = some (some (.ref f16))) (l16 : K.lookup f16 = some ⟨oc16, od16, .func (PySem.W.fnOf "with_nought" "with_nought" (defArgs s_with_nought) (defBody s_with_nought) (defScope s_with_nought) .none kV16 dc16 pm16 an16 cd16 ct16), sl16⟩) (c16 : PySem.W.codeIn K cd16 "with_nought" = true) (k16 : PySem.W.keepIn K (.ref f16) = true)
    (a17 : PySem.W.nsIn K mainGlobals "worth" = some (some (.ref f17))) (l17 : K.lookup f17 = some ⟨oc17, od17, .func (PySem.W.fnOf "worth" "worth" (defArgs s_worth) (defBody s_worth) (defScope s_worth) .none kV17 dc17 pm17 an17 cd17 ct17), sl17⟩) (c17 : PySem.W.codeIn K cd17 "worth" = true) (k17 : PySem.W.keepIn K (.ref f17) = true)
    (a18 : PySem.W.nsIn K mainGlobals "through" = some (some (.ref f18))) (l18 : K.lookup f18 = some ⟨oc18, od18, .func (PySem.W.fnOf "through" "through" (defArgs s_through) (defBody s_through) (defScope s_through) .none kV18 dc18 pm18 an18 cd18 ct18), sl18⟩) (c18 : PySem.W.codeIn K cd18 "through" = true) (k18 : PySem.W.keepIn K (.ref f18) = true)
    (a19 : PySem.W.nsIn K mainGlobals "curve_of" = some (some (.ref f19))) (l19 : K.lookup f19 = some ⟨oc19, od19, .func (PySem.W.fnOf "curve_of" "curve_of" (defArgs s_curve_of) (defBody s_curve_of) (defScope s_curve_of) .none kV19 dc19 pm19 an19 cd19 ct19), sl19⟩) (c19 : PySem.W.codeIn K cd19 "curve_of" = true) (k19 : PySem.W.keepIn K (.ref f19) = true)
    (a20 : PySem.W.nsIn K mainGlobals "lots_of" = some (some (.ref f20))) (l20 : K.lookup f20 = some ⟨oc20, od20, .func (PySem.W.fnOf "lots_of" "lots_of" (defArgs s_lots_of) (defBody s_lots_of) (defScope s_lots_of) (.ref T20) kV20 dc20 pm20 an20 cd20 ct20), sl20⟩) (c20 : PySem.W.codeIn K cd20 "lots_of" = true) (k20 : PySem.W.keepIn K (.ref f20) = true)
    (t20 : K.lookup T20 = some ⟨tc20, td20, .seq #[.int 0 tk20_least] tn20, ts20⟩)
    (a21 : PySem.W.nsIn K mainGlobals "off_hands" = some (some (.ref f21))) (l21 : K.lookup f21 = some ⟨oc21, od21, .func (PySem.W.fnOf "off_hands" "off_hands" (defArgs s_off_hands) (defBody s_off_hands) (defScope s_off_hands) .none kV21 dc21 pm21 an21 cd21 ct21), sl21⟩) (c21 : PySem.W.codeIn K cd21 "off_hands" = true) (k21 : PySem.W.keepIn K (.ref f21) = true)
    (a22 : PySem.W.nsIn K mainGlobals "mended" = some (some (.ref f22))) (l22 : K.lookup f22 = some ⟨oc22, od22, .func (PySem.W.fnOf "mended" "mended" (defArgs s_mended) (defBody s_mended) (defScope s_mended) .none kV22 dc22 pm22 an22 cd22 ct22), sl22⟩) (c22 : PySem.W.codeIn K cd22 "mended" = true) (k22 : PySem.W.keepIn K (.ref f22) = true)
    (a23 : PySem.W.nsIn K mainGlobals "law" = some (some (.ref f23))) (l23 : K.lookup f23 = some ⟨oc23, od23, .func (PySem.W.fnOf "law" "law" (defArgs s_law) (defBody s_law) (defScope s_law) .none kV23 dc23 pm23 an23 cd23 ct23), sl23⟩) (c23 : PySem.W.codeIn K cd23 "law" = true) (k23 : PySem.W.keepIn K (.ref f23) = true)
    (z_all : PySem.W.nsIn K mainGlobals "all" = some none)
    (z_bool : PySem.W.nsIn K mainGlobals "bool" = some none)
    (z_dict : PySem.W.nsIn K mainGlobals "dict" = some none)
    (z_enumerate : PySem.W.nsIn K mainGlobals "enumerate" = some none)
    (z_int : PySem.W.nsIn K mainGlobals "int" = some none)
    (z_isinstance : PySem.W.nsIn K mainGlobals "isinstance" = some none)
    (z_len : PySem.W.nsIn K mainGlobals "len" = some none)
    (z_list : PySem.W.nsIn K mainGlobals "list" = some none)
    (z_range : PySem.W.nsIn K mainGlobals "range" = some none)
    (z_repr : PySem.W.nsIn K mainGlobals "repr" = some none)
    (z_sorted : PySem.W.nsIn K mainGlobals "sorted" = some none)
    (z_str : PySem.W.nsIn K mainGlobals "str" = some none)
    (z_tuple : PySem.W.nsIn K mainGlobals "tuple" = some none)
    (z_zip : PySem.W.nsIn K mainGlobals "zip" = some none)
    : ∃ fd : FuncData, (∀ (s : Shared) (v : Value), BindsTo s fd ⟨[v], []⟩ [("_law_script", v)]) ∧ ∀ base : Heap, K.In base → base.Ns mainGlobals mg → FnG l.prog w K mg base CX0 9 fa fd ["_law_script"] wpLaw := by
  have e := hfa.symm.trans (PySem.W.mg_of X G a23)
  cases e
  have F0 := fun_mk (st := s_law_fresh) l0 c0 k0
  have F1 := fun_mk (st := s_law_draw) l1 c1 k1
  have F2 := fun_mk (st := s_law_coins) l2 c2 k2
  have F3 := fun_mk (st := s_law_companies) l3 c3 k3
  have F4 := fun_mk (st := s_law_company) l4 c4 k4
  have F5 := fun_mk (st := s_law_turned) l5 c5 k5
  have F6 := fun_mk (st := s_law_at) l6 c6 k6
  have F7 := fun_mk (st := s_law_lots) l7 c7 k7
  have F8 := fun_mk (st := s_law_off) l8 c8 k8
  have F9 := fun_mk (st := s_law_due) l9 c9 k9
  have F10 := fun_mk (st := s_law_pen) l10 c10 k10
  have F11 := fun_mk (st := s_law_piece) l11 c11 k11
  have F12 := fun_mk (st := s_law_pieces) l12 c12 k12
  have F13 := fun_mk (st := s_law_number) l13 c13 k13
  have F14 := fun_mk (st := s_law_same) l14 c14 k14
  have F15 := fun_mk (st := s_turned) l15 c15 k15
  have F16 := fun_mk (st := s_with_nought) l16 c16 k16
  have F17 := fun_mk (st := s_worth) l17 c17 k17
  have F18 := fun_mk (st := s_through) l18 c18 k18
  have F19 := fun_mk (st := s_curve_of) l19 c19 k19
  have F20 : FunD K "lots_of" "lots_of" (defArgs s_lots_of) (defBody s_lots_of) (defScope s_lots_of) ([(.int 0)] : List V) ([] : List (Str × V)) f20 _ := fd_mk l20 c20 k20 (.inr ⟨(fun z => by cases z), _, _, _, _, rfl, t20, rfl, .cons ⟨_, rfl⟩ (.nil)⟩) (.inl rfl)
  have F21 := fun_mk (st := s_off_hands) l21 c21 k21
  have F22 := fun_mk (st := s_mended) l22 c22 k22
  have F23 := fun_mk (st := s_law) l23 c23 k23
  have T : Txt K mg := {
    m_all := (PySem.W.mg_none_of X G z_all)
    m_bool := (PySem.W.mg_none_of X G z_bool)
    m_dict := (PySem.W.mg_none_of X G z_dict)
    m_enumerate := (PySem.W.mg_none_of X G z_enumerate)
    m_int := (PySem.W.mg_none_of X G z_int)
    m_isinstance := (PySem.W.mg_none_of X G z_isinstance)
    m_len := (PySem.W.mg_none_of X G z_len)
    m_list := (PySem.W.mg_none_of X G z_list)
    m_range := (PySem.W.mg_none_of X G z_range)
    m_repr := (PySem.W.mg_none_of X G z_repr)
    m_sorted := (PySem.W.mg_none_of X G z_sorted)
    m_str := (PySem.W.mg_none_of X G z_str)
    m_tuple := (PySem.W.mg_none_of X G z_tuple)
    m_zip := (PySem.W.mg_none_of X G z_zip)
    f_law_fresh := _, fd_law_fresh := _, F_law_fresh := F0, m_law_fresh := (PySem.W.mg_of X G a0), b_law_fresh := (F0.binds fun _ _ _ _ _ _ us hl => match us, hl with | [_], _ => rfl)
    f_law_draw := _, fd_law_draw := _, F_law_draw := F1, m_law_draw := (PySem.W.mg_of X G a1), b_law_draw := (F1.binds fun _ _ _ _ _ _ us hl => match us, hl with | [_, _], _ => rfl)
    f_law_coins := _, fd_law_coins := _, F_law_coins := F2, m_law_coins := (PySem.W.mg_of X G a2), b_law_coins := (F2.binds fun _ _ _ _ _ _ us hl => match us, hl with | [_, _, _], _ => rfl)
    f_law_companies := _, fd_law_companies := _, F_law_companies := F3, m_law_companies := (PySem.W.mg_of X G a3), b_law_companies := (F3.binds fun _ _ _ _ _ _ us hl => match us, hl with | [], _ => rfl)
    f_law_company := _, fd_law_company := _, F_law_company := F4, m_law_company := (PySem.W.mg_of X G a4), b_law_company := (F4.binds fun _ _ _ _ _ _ us hl => match us, hl with | [_, _], _ => rfl)
    f_law_turned := _, fd_law_turned := _, F_law_turned := F5, m_law_turned := (PySem.W.mg_of X G a5), b_law_turned := (F5.binds fun _ _ _ _ _ _ us hl => match us, hl with | [_, _], _ => rfl)
    f_law_at := _, fd_law_at := _, F_law_at := F6, m_law_at := (PySem.W.mg_of X G a6), b_law_at := (F6.binds fun _ _ _ _ _ _ us hl => match us, hl with | [_, _, _], _ => rfl)
    f_law_lots := _, fd_law_lots := _, F_law_lots := F7, m_law_lots := (PySem.W.mg_of X G a7), b_law_lots := (F7.binds fun _ _ _ _ _ _ us hl => match us, hl with | [_, _], _ => rfl)
    f_law_off := _, fd_law_off := _, F_law_off := F8, m_law_off := (PySem.W.mg_of X G a8), b_law_off := (F8.binds fun _ _ _ _ _ _ us hl => match us, hl with | [_, _, _], _ => rfl)
    f_law_due := _, fd_law_due := _, F_law_due := F9, m_law_due := (PySem.W.mg_of X G a9), b_law_due := (F9.binds fun _ _ _ _ _ _ us hl => match us, hl with | [_, _], _ => rfl)
    f_law_pen := _, fd_law_pen := _, F_law_pen := F10, m_law_pen := (PySem.W.mg_of X G a10), b_law_pen := (F10.binds fun _ _ _ _ _ _ us hl => match us, hl with | [_], _ => rfl)
    f_law_piece := _, fd_law_piece := _, F_law_piece := F11, m_law_piece := (PySem.W.mg_of X G a11), b_law_piece := (F11.binds fun _ _ _ _ _ _ us hl => match us, hl with | [_, _, _, _], _ => rfl)
    f_law_pieces := _, fd_law_pieces := _, F_law_pieces := F12, m_law_pieces := (PySem.W.mg_of X G a12), b_law_pieces := (F12.binds fun _ _ _ _ _ _ us hl => match us, hl with | [_, _, _], _ => rfl)
    f_law_number := _, fd_law_number := _, F_law_number := F13, m_law_number := (PySem.W.mg_of X G a13), b_law_number := (F13.binds fun _ _ _ _ _ _ us hl => match us, hl with | [_], _ => rfl)
    f_law_same := _, fd_law_same := _, F_law_same := F14, m_law_same := (PySem.W.mg_of X G a14), b_law_same := (F14.binds fun _ _ _ _ _ _ us hl => match us, hl with | [_, _], _ => rfl)
    f_turned := _, fd_turned := _, F_turned := F15, m_turned := (PySem.W.mg_of X G a15), b_turned := (F15.binds fun _ _ _ _ _ _ us hl => match us, hl with | [_, _], _ => rfl)
    f_with_nought := _, fd_with_nought := _, F_with_nought := F16, m_with_nought := (PySem.W.mg_of X G a16), b_with_nought := (F16.binds fun _ _ _ _ _ _ us hl => match us, hl with | [_, _, _], _ => rfl)
    f_worth := _, fd_worth := _, F_worth := F17, m_worth := (PySem.W.mg_of X G a17), b_worth := (F17.binds fun _ _ _ _ _ _ us hl => match us, hl with | [_, _, _], _ => rfl)
    f_through := _, fd_through := _, F_through := F18, m_through := (PySem.W.mg_of X G a18), b_through := (F18.binds fun _ _ _ _ _ _ us hl => match us, hl with | [_, _], _ => rfl)
    f_curve_of := _, fd_curve_of := _, F_curve_of := F19, m_curve_of := (PySem.W.mg_of X G a19), b_curve_of := (F19.binds fun _ _ _ _ _ _ us hl => match us, hl with | [_, _, _], _ => rfl)
    f_lots_of := _, fd_lots_of := _, F_lots_of := F20, m_lots_of := (PySem.W.mg_of X G a20)
    bd_lots_of_2 := FunD.binds1 F20 2 0 (fun z => by cases z) rfl (fun _ _ _ _ _ _ _ us its l1 l2 => match us, its, l1, l2 with | [_, _], [_], _, _ => ⟨_, rfl, rfl⟩)
    bd_lots_of_3 := FunD.binds1 F20 3 1 (fun z => by cases z) rfl (fun _ _ _ _ _ _ _ us its l1 l2 => match us, its, l1, l2 with | [_, _, _], [_], _, _ => ⟨_, rfl, rfl⟩)
    f_off_hands := _, fd_off_hands := _, F_off_hands := F21, m_off_hands := (PySem.W.mg_of X G a21), b_off_hands := (F21.binds fun _ _ _ _ _ _ us hl => match us, hl with | [_, _, _], _ => rfl)
    f_mended := _, fd_mended := _, F_mended := F22, m_mended := (PySem.W.mg_of X G a22), b_mended := (F22.binds fun _ _ _ _ _ _ us hl => match us, hl with | [_, _], _ => rfl)
    kb_mended_pieces_company := (fun s ws _ hl => match ws, hl with | [_, _], _ => .of_eq rfl) }
  exact ⟨_, fun s v => .of_eq rfl, fun base _ _ => ok_law T F23⟩
end Law
open PySem PySem.W PyProof.Rows
set_option maxHeartbeats 0 in
theorem PySem.Challenge.cw_mutehands_k12_false_pieces_found_holds : PySem.Challenge.rw_mutehands_k12_false_pieces_found.Holds := by
  w_on; o_law; k_head; (case hw => w_witness2)
  k_fill
  refine DL.walk_g (l := PySem.Challenge.rw_mutehands_k12_false_pieces_found) (x := "_law_script") (lv := 9) rfl rfl ⟨rfl, by decide, by decide⟩ (fun w h Y => PySem.W.kIn_of Y) ?F
  case F =>
    intro w mg fa h KX G hmg
    refine' Law.all_mk KX G hmg ?a0 ?l0 ?c0 ?k0 ?a1 ?l1 ?c1 ?k1 ?a2 ?l2 ?c2 ?k2 ?a3 ?l3 ?c3 ?k3 ?a4 ?l4 ?c4 ?k4 ?a5 ?l5 ?c5 ?k5 ?a6 ?l6 ?c6 ?k6 ?a7 ?l7 ?c7 ?k7 ?a8 ?l8 ?c8 ?k8 ?a9 ?l9 ?c9 ?k9 ?a10 ?l10 ?c10 ?k10 ?a11 ?l11 ?c11 ?k11 ?a12 ?l12 ?c12 ?k12 ?a13 ?l13 ?c13 ?k13 ?a14 ?l14 ?c14 ?k14 ?a15 ?l15 ?c15 ?k15 ?a16 ?l16 ?c16 ?k16 ?a17 ?l17 ?c17 ?k17 ?a18 ?l18 ?c18 ?k18 ?a19 ?l19 ?c19 ?k19 ?a20 ?l20 ?c20 ?k20 ?t20 ?a21 ?l21 ?c21 ?k21 ?a22 ?l22 ?c22 ?k22 ?a23 ?l23 ?c23 ?k23 ?z_all ?z_bool ?z_dict ?z_enumerate ?z_int ?z_isinstance ?z_len ?z_list ?z_range ?z_repr ?z_sorted ?z_str ?z_tuple ?z_zip
    (case a0 => k_is); (case l0 => k_is); (case c0 => k_is); (case k0 => k_is); (case a1 => k_is); (case l1 => k_is); (case c1 => k_is); (case k1 => k_is); (case a2 => k_is); (case l2 => k_is); (case c2 => k_is); (case k2 => k_is); (case a3 => k_is); (case l3 => k_is); (case c3 => k_is); (case k3 => k_is); (case a4 => k_is); (case l4 => k_is); (case c4 => k_is); (case k4 => k_is); (case a5 => k_is); (case l5 => k_is); (case c5 => k_is); (case k5 => k_is); (case a6 => k_is); (case l6 => k_is); (case c6 => k_is); (case k6 => k_is); (case a7 => k_is); (case l7 => k_is); (case c7 => k_is); (case k7 => k_is); (case a8 => k_is); (case l8 => k_is); (case c8 => k_is); (case k8 => k_is); (case a9 => k_is); (case l9 => k_is); (case c9 => k_is); (case k9 => k_is); (case a10 => k_is); (case l10 => k_is); (case c10 => k_is); (case k10 => k_is); (case a11 => k_is); (case l11 => k_is); (case c11 => k_is); (case k11 => k_is); (case a12 => k_is); (case l12 => k_is); (case c12 => k_is); (case k12 => k_is); (case a13 => k_is); (case l13 => k_is); (case c13 => k_is); (case k13 => k_is); (case a14 => k_is); (case l14 => k_is); (case c14 => k_is); (case k14 => k_is); (case a15 => k_is); (case l15 => k_is); (case c15 => k_is); (case k15 => k_is); (case a16 => k_is); (case l16 => k_is); (case c16 => k_is); (case k16 => k_is); (case a17 => k_is); (case l17 => k_is); (case c17 => k_is); (case k17 => k_is); (case a18 => k_is); (case l18 => k_is); (case c18 => k_is); (case k18 => k_is); (case a19 => k_is); (case l19 => k_is); (case c19 => k_is); (case k19 => k_is); (case a20 => k_is); (case l20 => k_is); (case c20 => k_is); (case k20 => k_is); (case t20 => k_is); (case a21 => k_is); (case l21 => k_is); (case c21 => k_is); (case k21 => k_is); (case a22 => k_is); (case l22 => k_is); (case c22 => k_is); (case k22 => k_is); (case a23 => k_is); (case l23 => k_is); (case c23 => k_is); (case k23 => k_is); (case z_all => k_is); (case z_bool => k_is); (case z_dict => k_is); (case z_enumerate => k_is); (case z_int => k_is); (case z_isinstance => k_is); (case z_len => k_is); (case z_list => k_is); (case z_range => k_is); (case z_repr => k_is); (case z_sorted => k_is); (case z_str => k_is); (case z_tuple => k_is); (case z_zip => k_is)
