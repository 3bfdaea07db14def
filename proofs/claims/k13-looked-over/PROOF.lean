import PyProof.Rows.All
import Wide.All
import OpenK.AllK
import Wide.FinOn
import HandS.ForMost
import HandS.EndBits
import HandS.Wide
import HandS.TupAny
import HandS.Exc
import HandS.ExcOwn
import HandS.ExcIs
import HandS.ExcField
import HandS.ExcInit
import HandS.TryMany
import HandS.Conv
import HandS.Zip
import HandS.Style
import HandS.RaiseMore
import HandS.TupMul
import HandS.TupSets
import HandS.Rev
import HandS.IsInst
import HandS.More
import HandS.Defaults
import KE.GoesMore
import KE.GoesEnumKw
import KE.KRevSl
import HandS.SortInts
import PyProof.ReprRoads
import KE.KExcIs
import HandS.ExcValue
import HandS.WordsExc
import PyProof.StrLawsRepr
import HandS.Text
import PySem.Challenge.RW_mutehands_k13_what_was_found_looked_over
set_option Elab.async false
set_option linter.all false
set_option maxRecDepth 100000
set_option maxHeartbeats 4000000
/-! A functional layer over the hand layer: a def's body is read as a plain function of values, names and a store. -/
namespace FL
open PySem PySem.Spec PyProof.Rows L2

theorem nodup_ne {α : Type} {l : List α} (h : l.Nodup) {i j : Nat} {x : α} (hi : l[i]? = some x) (hj : l[j]? = some x) : i = j := by
  obtain ⟨li, ei⟩ := List.getElem?_eq_some_iff.mp hi
  obtain ⟨lj, ej⟩ := List.getElem?_eq_some_iff.mp hj
  have hp := List.pairwise_iff_getElem.mp h
  rcases Nat.lt_trichotomy i j with z | z | z
  · exact absurd (ei.trans ej.symm) (hp i j li lj z)
  · exact z
  · exact absurd (ej.trans ei.symm) (hp j i lj li z)
/-! ### values, cells, stores -/
inductive Val where
  | non
  | bl (b : Bool)
  | int (i : Int)
  | str (s : Str)
  | tup (xs : List Val)
  | ro (xs : List Val)
  | wr (xs : List Val)
  | rd (ks : List Key) (xs : List Val)
  | ref (n : Nat)
  | ty (n : String)
  | gl (n : Str)
  | ex0 (n : Str)
  | ex1 (n : Str) (f : Str) (x : Val)
  deriving Inhabited
inductive Cell where
  | lst (xs : List Val)
  | dic (es : List (Key × Val))
  | dit (es : List (List Key × Val))
  | ins (C : Addr) (fs : List (Str × Val))
abbrev Store := List Cell
/-- a list that is only read: the script, a list of the module -/
def RoA (K : PySem.W.Frag) (H : Hp) (a : Addr) (ws : List V) : Prop := (∃ o, H a = some (.frz o (.lst ws))) ∨
  ∃ (o : Obj) (its : Array Value) (n : Nat), K.lookup a = some o ∧ o.cls = .type "list" ∧ o.dict = none ∧ o.data = .seq its n ∧ its.size ≤ sizeLine ∧ Vals ws its.toList
/-- where the module's name n leads -/
def cA (K : PySem.W.Frag) (n : Str) : Addr := match PySem.W.nsIn K mainGlobals n with
  | some (some (.ref C)) => C
  | _ => 0
/-- at a: an exception of the class at C, that stands by itself -/
def exv (C : Addr) (d : Option Addr) (a : Addr) : HO := .ext fun h => ∃ (oe : Obj) (vs : Array Value), h.get? a = some oe ∧ Zc (.ref C) d oe ∧ oe.data = .fields vs
mutual
inductive VR (K : PySem.W.Frag) (fr : Addr → Prop) (H : Hp) (ms : List Addr) : V → Val → Prop
  | non : VR K fr H ms .non .non
  | bl (b : Bool) : VR K fr H ms (.bl b) (.bl b)
  | int (i : Int) : VR K fr H ms (.int i) (.int i)
  | str (x : Str) : VR K fr H ms (.str x) (.str x)
  | tup {a : Addr} {ws : List V} {xs : List Val} : SqT K H a ws → VRs K fr H ms ws xs → VR K fr H ms (.ref a) (.tup xs)
  | ro {a : Addr} {ws : List V} {xs : List Val} : H a = some (.lst ws) → fr a → VRs K fr H ms ws xs → VR K fr H ms (.ref a) (.ro xs)
  | wr {a : Addr} {ws : List V} {xs : List Val} : RoA K H a ws → VRs K fr H ms ws xs → VR K fr H ms (.ref a) (.wr xs)
  | rd {a : Addr} {ks : List Key} {ws : List V} {xs : List Val} : H a = some (.dK (ks.zip ws)) → ks.length = ws.length → fr a → VRs K fr H ms ws xs → VR K fr H ms (.ref a) (.rd ks xs)
  | ref {n : Nat} {a : Addr} : ms[n]? = some a → VR K fr H ms (.ref a) (.ref n)
  | ty (n : String) : VR K fr H ms (.ty n) (.ty n)
  | gl (n : Str) : VR K fr H ms (.ref (cA K n)) (.gl n)
  | ex0 {a : Addr} {n : Str} : H a = some (exv (cA K n) none a) → VR K fr H ms (.ref a) (.ex0 n)
  | ex1 {a dd : Addr} {n : Str} {f : Str} {v : V} {x : Val} : H a = some (exv (cA K n) (some dd) a) → H dd = some (.xd [(f, v)]) → VR K fr H ms v x → VR K fr H ms (.ref a) (.ex1 n f x)
inductive VRs (K : PySem.W.Frag) (fr : Addr → Prop) (H : Hp) (ms : List Addr) : List V → List Val → Prop
  | nil : VRs K fr H ms [] []
  | cons {v : V} {vs : List V} {x : Val} {xs : List Val} : VR K fr H ms v x → VRs K fr H ms vs xs → VRs K fr H ms (v :: vs) (x :: xs)
end
inductive VRk {κ : Type} (K : PySem.W.Frag) (fr : Addr → Prop) (H : Hp) (ms : List Addr) : List (κ × V) → List (κ × Val) → Prop
  | nil : VRk K fr H ms [] []
  | cons {k : κ} {v : V} {vs : List (κ × V)} {x : Val} {xs : List (κ × Val)} : VR K fr H ms v x → VRk K fr H ms vs xs → VRk K fr H ms ((k, v) :: vs) ((k, x) :: xs)
def CR (K : PySem.W.Frag) (fr : Addr → Prop) (H : Hp) (ms : List Addr) (p : Addr) : Cell → Prop
  | .lst xs => ∃ ws, H p = some (.lst ws) ∧ VRs K fr H ms ws xs
  | .dic es => ∃ ws, H p = some (.dK ws) ∧ VRk K fr H ms ws es
  | .dit es => ∃ ws, H p = some (.dT ws) ∧ VRk K fr H ms ws es
  | .ins C fs => ∃ dx ws, H p = some (.ins C dx ws) ∧ H dx = some (.own p) ∧ VRk K fr H ms ws fs
/-- the sorts of own objects -/
def OwnO : HO → Prop
  | .lst _ => True
  | .dK _ => True
  | .dT _ => True
  | .ins _ _ _ => True
  | _ => False
structure SR (K : PySem.W.Frag) (fr : Addr → Prop) (H : Hp) (ms : List Addr) (st : Store) : Prop where
  len : ms.length = st.length
  nd : ms.Nodup
  cell : ∀ (i : Nat) a c, ms[i]? = some a → st[i]? = some c → CR K fr H ms a c
  nfr : ∀ a ∈ ms, ¬ fr a
  low : ∀ a, fr a → H a ≠ none
def notbl : HO → Prop
  | .tbl _ => False
  | _ => True
/-- from a state to a later one, n cells staying where they are -/
structure Ext (n : Nat) (fr : Addr → Prop) (H : Hp) (ms : List Addr) (fr' : Addr → Prop) (H' : Hp) (ms' : List Addr) : Prop where
  pre : ms'.take n = ms.take n
  keep : ∀ a o, H a = some o → a ∉ ms → notbl o → H' a = some o
  there : ∀ a, H a ≠ none → H' a ≠ none
  tk : ∀ a ∈ ms', a ∈ ms ∨ H a = none
  frk : ∀ a, fr a → fr' a
  frn : ∀ a, fr' a → fr a ∨ H a = none ∨ a ∈ ms
section
variable {K : PySem.W.Frag} {fr fr1 fr2 fr3 : Addr → Prop} {H H1 H2 H3 : Hp} {ms ms1 ms2 ms3 : List Addr} {st st1 st2 : Store} {n : Nat}
theorem CR.ow {p : Addr} : ∀ {c : Cell}, CR K fr H ms p c → ∃ o, H p = some o ∧ OwnO o
  | .lst _, ⟨_, h, _⟩ => ⟨_, h, trivial⟩
  | .dic _, ⟨_, h, _⟩ => ⟨_, h, trivial⟩
  | .dit _, ⟨_, h, _⟩ => ⟨_, h, trivial⟩
  | .ins _ _, ⟨_, _, h, _⟩ => ⟨_, h, trivial⟩
theorem SR.ow (s : SR K fr H ms st) {a : Addr} (h : a ∈ ms) : ∃ o, H a = some o ∧ OwnO o := by
  obtain ⟨i, hi, e⟩ := List.getElem_of_mem h
  have hl : i < st.length := by rw [← s.len]; exact hi
  exact (s.cell i a st[i] (by rw [List.getElem?_eq_getElem hi, e]) (List.getElem?_eq_getElem hl)).ow
theorem SR.there (s : SR K fr H ms st) {a : Addr} (h : a ∈ ms) : H a ≠ none := by
  obtain ⟨o, e, _⟩ := s.ow h
  rw [e]
  simp
theorem SR.no (s : SR K fr H ms st) {a : Addr} (h : H a = none) : a ∉ ms := fun z => s.there z h
theorem SR.non (s : SR K fr H ms st) {a : Addr} {u : HO} (h : H a = some u) (hu : ¬ OwnO u) : a ∉ ms := fun z => by
  obtain ⟨o, e, ho⟩ := s.ow z
  rw [h] at e
  cases e
  exact hu ho
theorem Ext.refl (n : Nat) (fr : Addr → Prop) (H : Hp) (ms : List Addr) : Ext n fr H ms fr H ms := ⟨rfl, fun _ _ h _ _ => h, fun _ h => h, fun _ h => .inl h, fun _ h => h, fun _ h => .inl h⟩
theorem Ext.mono {m : Nat} (e : Ext n fr H ms fr1 H1 ms1) (h : m ≤ n) : Ext m fr H ms fr1 H1 ms1 := ⟨by
  have q := congrArg (List.take m) e.pre
  rwa [List.take_take, List.take_take, Nat.min_eq_left h] at q, e.keep, e.there, e.tk, e.frk, e.frn⟩
theorem Ext.trans (a : Ext n fr H ms fr1 H1 ms1) (b : Ext n fr1 H1 ms1 fr2 H2 ms2) : Ext n fr H ms fr2 H2 ms2 := by
  have nn : ∀ c, H c ≠ none → c ∉ ms → c ∉ ms1 := fun c h e z => (a.tk c z).elim e h
  refine ⟨b.pre.trans a.pre, fun c o h e t => b.keep c o (a.keep c o h e t) (nn c (by rw [h]; simp) e) t, fun c h => b.there c (a.there c h), fun c h => ?_, fun c h => b.frk c (a.frk c h), fun c h => ?_⟩
  · rcases b.tk c h with q | q
    · exact a.tk c q
    · exact .inr (Classical.byContradiction fun z => a.there c z q)
  · rcases b.frn c h with q | q | q
    · exact a.frn c q
    · exact .inr (.inl (Classical.byContradiction fun z => a.there c z q))
    · rcases a.tk c q with z | z
      · exact .inr (.inr z)
      · exact .inr (.inl z)
theorem Ext.get (e : Ext n fr H ms fr1 H1 ms1) {i : Nat} {a : Addr} (h : i < n) (g : ms[i]? = some a) : ms1[i]? = some a := by
  have q := congrArg (fun l : List Addr => l[i]?) e.pre
  simp only [List.getElem?_take, if_pos h] at q
  rw [q, g]
theorem Ext.len (e : Ext ms.length fr H ms fr1 H1 ms1) : ms.length ≤ ms1.length := by
  have q := congrArg List.length e.pre
  rw [List.length_take, List.length_take, Nat.min_self] at q
  omega
/-- two steps, each keeping all that was there -/
theorem Ext.then (a : Ext ms.length fr H ms fr1 H1 ms1) (b : Ext ms1.length fr1 H1 ms1 fr2 H2 ms2) : Ext ms.length fr H ms fr2 H2 ms2 := a.trans (b.mono a.len)
theorem sqt_ex (s : SR K fr H ms st) (e : Ext n fr H ms fr1 H1 ms1) {a : Addr} {xs : List V} (h : SqT K H a xs) : SqT K H1 a xs := by
  rcases h with (h | ⟨o, h⟩) | h
  · exact .inl (.inl (e.keep _ _ h (s.non h fun z => z) trivial))
  · exact .inl (.inr ⟨o, e.keep _ _ h (s.non h fun z => z) trivial⟩)
  · exact .inr h
theorem roa_ex (s : SR K fr H ms st) (e : Ext n fr H ms fr1 H1 ms1) {a : Addr} {xs : List V} (h : RoA K H a xs) : RoA K H1 a xs := by
  rcases h with ⟨o, h⟩ | h
  · exact .inl ⟨o, e.keep _ _ h (s.non h fun z => z) trivial⟩
  · exact .inr h
theorem SR.fz (s : SR K fr H ms st) {a : Addr} (h : fr a) : a ∉ ms := fun z => s.nfr a z h
mutual
theorem VR.ex (s : SR K fr H ms st) (e : Ext ms.length fr H ms fr1 H1 ms1) : ∀ {v : V} {x : Val}, VR K fr H ms v x → VR K fr1 H1 ms1 v x
  | _, _, .non => .non
  | _, _, .bl b => .bl b
  | _, _, .int i => .int i
  | _, _, .str x => .str x
  | _, _, .tup h r => .tup (sqt_ex s e h) (VRs.ex s e r)
  | _, _, .ro h f r => .ro (e.keep _ _ h (s.fz f) trivial) (e.frk _ f) (VRs.ex s e r)
  | _, _, .wr h r => .wr (roa_ex s e h) (VRs.ex s e r)
  | _, _, .rd h l f r => .rd (e.keep _ _ h (s.fz f) trivial) l (e.frk _ f) (VRs.ex s e r)
  | _, _, .ref h => .ref (e.get (List.getElem?_eq_some_iff.mp h).1 h)
  | _, _, .ty n => .ty n
  | _, _, .gl a => .gl a
  | _, _, .ex0 h => .ex0 (e.keep _ _ h (s.non h fun z => z) trivial)
  | _, _, .ex1 h d r => .ex1 (e.keep _ _ h (s.non h fun z => z) trivial) (e.keep _ _ d (s.non d fun z => z) trivial) (VR.ex s e r)
theorem VRs.ex (s : SR K fr H ms st) (e : Ext ms.length fr H ms fr1 H1 ms1) : ∀ {v : List V} {x : List Val}, VRs K fr H ms v x → VRs K fr1 H1 ms1 v x
  | _, _, .nil => .nil
  | _, _, .cons a b => .cons (VR.ex s e a) (VRs.ex s e b)
end
theorem VRk.ex {κ : Type} (s : SR K fr H ms st) (e : Ext ms.length fr H ms fr1 H1 ms1) : ∀ {vs : List (κ × V)} {xs : List (κ × Val)}, VRk K fr H ms vs xs → VRk K fr1 H1 ms1 vs xs
  | _, _, .nil => .nil
  | _, _, .cons a b => .cons (a.ex s e) (VRk.ex s e b)
theorem CR.ex (s : SR K fr H ms st) (e : Ext ms.length fr H ms fr1 H1 ms1) {p : Addr} (hp : H1 p = H p) : ∀ {c : Cell}, CR K fr H ms p c → CR K fr1 H1 ms1 p c
  | .lst _, ⟨ws, a, b⟩ => ⟨ws, hp.trans a, b.ex s e⟩
  | .dic _, ⟨ws, a, b⟩ => ⟨ws, hp.trans a, b.ex s e⟩
  | .dit _, ⟨ws, a, b⟩ => ⟨ws, hp.trans a, b.ex s e⟩
  | .ins _ _, ⟨dx, ws, a, d, b⟩ => ⟨dx, ws, hp.trans a, e.keep _ _ d (s.non d fun z => z) trivial, b.ex s e⟩
theorem VRs.length : ∀ {vs : List V} {xs : List Val}, VRs K fr H ms vs xs → vs.length = xs.length
  | _, _, .nil => rfl
  | _, _, .cons _ b => by rw [List.length_cons, List.length_cons, VRs.length b]
theorem VRs.get : ∀ {vs : List V} {ds : List Val} {i : Nat} {x : Val}, VRs K fr H ms vs ds → ds[i]? = some x → ∃ v, vs[i]? = some v ∧ VR K fr H ms v x
  | _, _, _, _, .nil, e => by simp at e
  | _, _, 0, _, .cons a _, e => by
    simp at e
    subst e
    exact ⟨_, rfl, a⟩
  | _, _, i + 1, x, .cons _ b, e => by
    obtain ⟨v, h1, h2⟩ := VRs.get (i := i) (x := x) b (by simpa using e)
    exact ⟨v, by simpa using h1, h2⟩
theorem VRs.app : ∀ {vs ws : List V} {ds es : List Val}, VRs K fr H ms vs ds → VRs K fr H ms ws es → VRs K fr H ms (vs ++ ws) (ds ++ es)
  | _, _, _, _, .nil, b => b
  | _, _, _, _, .cons a b, c => .cons a (VRs.app b c)
theorem VRs.put {v : V} {x : Val} (h : VR K fr H ms v x) : ∀ {vs : List V} {ds : List Val} (i : Nat), VRs K fr H ms vs ds → VRs K fr H ms (vs.set i v) (ds.set i x)
  | _, _, _, .nil => .nil
  | _, _, 0, .cons _ b => .cons h b
  | _, _, i + 1, .cons a b => .cons a (VRs.put h i b)
theorem VRs.cut : ∀ {vs : List V} {ds : List Val} (n : Nat), VRs K fr H ms vs ds → VRs K fr H ms (vs.take n) (ds.take n)
  | _, _, 0, _ => .nil
  | _, _, _ + 1, .nil => .nil
  | _, _, n + 1, .cons a b => .cons a (VRs.cut n b)
theorem VRs.off : ∀ {vs : List V} {ds : List Val} (n : Nat), VRs K fr H ms vs ds → VRs K fr H ms (vs.drop n) (ds.drop n)
  | _, _, 0, h => h
  | _, _, _ + 1, .nil => .nil
  | _, _, n + 1, .cons _ b => VRs.off n b
theorem VRs.era : ∀ {vs : List V} {ds : List Val} (n : Nat), VRs K fr H ms vs ds → VRs K fr H ms (vs.eraseIdx n) (ds.eraseIdx n)
  | _, _, 0, .nil => .nil
  | _, _, _ + 1, .nil => .nil
  | _, _, 0, .cons _ b => b
  | _, _, n + 1, .cons a b => .cons a (VRs.era n b)
theorem VRs.rev : ∀ {vs : List V} {ds : List Val}, VRs K fr H ms vs ds → VRs K fr H ms vs.reverse ds.reverse
  | _, _, .nil => .nil
  | _, _, .cons a b => by
    rw [List.reverse_cons, List.reverse_cons]
    exact (VRs.rev b).app (.cons a .nil)
theorem VRs.rep {vs : List V} {xs : List Val} (h : VRs K fr H ms vs xs) : ∀ n : Nat, VRs K fr H ms (List.replicate n vs).flatten (List.replicate n xs).flatten
  | 0 => .nil
  | n + 1 => by
    rw [List.replicate_succ, List.replicate_succ, List.flatten_cons, List.flatten_cons]
    exact h.app (VRs.rep h n)
theorem VRk.length {κ : Type} : ∀ {vs : List (κ × V)} {ds : List (κ × Val)}, VRk K fr H ms vs ds → vs.length = ds.length
  | _, _, .nil => rfl
  | _, _, .cons _ b => by rw [List.length_cons, List.length_cons, VRk.length b]
theorem VRk.keys {κ : Type} : ∀ {vs : List (κ × V)} {ds : List (κ × Val)}, VRk K fr H ms vs ds → vs.map (·.1) = ds.map (·.1)
  | _, _, .nil => rfl
  | _, _, .cons _ b => by rw [List.map_cons, List.map_cons, VRk.keys b]
/-! ### a state -/
abbrev Env := List (Option Val)
structure Wd (K : PySem.W.Frag) (fr : Addr → Prop) (H : Hp) (ms : List Addr) (σ : L2.St) (ρ : Env) (st : Store) : Prop where
  len : ρ.length = σ.length
  env : ∀ (i : Nat) (x : Val), ρ[i]? = some (some x) → ∃ v, σ[i]? = some (some v) ∧ VR K fr H ms v x
  sr : SR K fr H ms st
theorem Wd.on {σ : L2.St} {ρ : Env} (w : Wd K fr H ms σ ρ st) (e : Ext ms.length fr H ms fr1 H1 ms1) (s : SR K fr1 H1 ms1 st1) : Wd K fr1 H1 ms1 σ ρ st1 :=
  ⟨w.len, fun i x h => let ⟨v, a, b⟩ := w.env i x h; ⟨v, a, b.ex w.sr e⟩, s⟩
theorem Wd.put {σ : L2.St} {ρ : Env} (w : Wd K fr H ms σ ρ st) {v : V} {x : Val} (h : VR K fr H ms v x) (i : Nat) : Wd K fr H ms (σ.set i (some v)) (ρ.set i (some x)) st := by
  refine ⟨by rw [List.length_set, List.length_set, w.len], fun j y hj => ?_, w.sr⟩
  by_cases e : i = j
  · subst e
    have hl : i < ρ.length := by
      have q := (List.getElem?_eq_some_iff.mp hj).1
      rwa [List.length_set] at q
    rw [List.getElem?_set_self hl] at hj
    cases hj
    exact ⟨v, by rw [List.getElem?_set_self (by rw [← w.len]; exact hl)], h⟩
  · rw [List.getElem?_set_ne e] at hj
    rw [List.getElem?_set_ne e]
    exact w.env j y hj
/-! ### new objects -/
theorem upd_keep {a : Addr} {o : HO} (n : H a = none) {b : Addr} {u : HO} (h : H b = some u) : upd H a o b = some u := by rw [upd_ne (ne_of_none h n)]; exact h
theorem upd_there {a : Addr} {o : HO} {b : Addr} (h : H b ≠ none) : upd H a o b ≠ none := fun z => by
  by_cases e : b = a
  · rw [e, upd_same] at z
    cases z
  · rw [upd_ne e] at z
    exact h z
/-- a new object that is not told of -/
theorem Ext.new {a : Addr} {o : HO} (m : Nat) (n : H a = none) : Ext m fr H ms fr (upd H a o) ms :=
  ⟨rfl, fun b u h _ _ => upd_keep n h, fun b h => upd_there h, fun _ h => .inl h, fun _ h => h, fun _ h => .inl h⟩
theorem SR.ex (s : SR K fr H ms st) (e : Ext ms.length fr H ms fr1 H1 ms) (k : ∀ p ∈ ms, ¬ fr1 p ∧ H1 p = H p) (l : ∀ a, fr1 a → H1 a ≠ none) : SR K fr1 H1 ms st :=
  ⟨s.len, s.nd, fun i a c h g => (s.cell i a c h g).ex s e (k a (List.mem_of_getElem? h)).2, fun a h => (k a h).1, l⟩
theorem SR.new {a : Addr} {o : HO} (s : SR K fr H ms st) (n : H a = none) : SR K fr (upd H a o) ms st := s.ex (Ext.new _ n) (fun p h => ⟨s.nfr p h, upd_ne fun z => s.there h (z ▸ n)⟩) fun b h => upd_there (s.low b h)
/-- a new frozen object -/
theorem Ext.fz {a : Addr} {o : HO} (m : Nat) (n : H a = none) : Ext m fr H ms (fun b => fr b ∨ b = a) (upd H a o) ms :=
  ⟨rfl, fun b u h _ _ => upd_keep n h, fun b h => upd_there h, fun _ h => .inl h, fun _ h => .inl h, fun b h => h.elim .inl fun z => .inr (.inl (z ▸ n))⟩
theorem SR.fzn {a : Addr} {o : HO} (s : SR K fr H ms st) (n : H a = none) : SR K (fun b => fr b ∨ b = a) (upd H a o) ms st :=
  s.ex (Ext.fz _ n) (fun p h => ⟨fun z => z.elim (s.nfr p h) fun z => s.there h (z ▸ n), upd_ne fun z => s.there h (z ▸ n)⟩) fun b h => by
    rcases h with h | rfl
    · exact upd_there (s.low b h)
    · rw [upd_same]
      simp
/-- a new cell -/
theorem Ext.cell {a : Addr} {o : HO} (n : H a = none) : Ext ms.length fr H ms fr (upd H a o) (ms ++ [a]) :=
  ⟨by rw [List.take_append_of_le_length (Nat.le_refl _)], fun b u h _ _ => upd_keep n h, fun b h => upd_there h, fun b h => by
    rcases List.mem_append.mp h with h | h
    · exact .inl h
    · rw [List.mem_singleton.mp h]
      exact .inr n, fun _ h => h, fun _ h => .inl h⟩
theorem getElem?_snoc {α : Type} {l : List α} {x : α} {i : Nat} {y : α} (h : (l ++ [x])[i]? = some y) : l[i]? = some y ∨ (i = l.length ∧ y = x) := by
  rcases Nat.lt_trichotomy i l.length with z | z | z
  · rw [List.getElem?_append_left z] at h
    exact .inl h
  · subst z
    rw [List.getElem?_append_right (Nat.le_refl _), Nat.sub_self] at h
    cases h
    exact .inr ⟨rfl, rfl⟩
  · rw [List.getElem?_append_right (Nat.le_of_lt z)] at h
    have : i - l.length ≠ 0 := by omega
    cases e : i - l.length with
    | zero => exact absurd e this
    | succ j =>
      rw [e] at h
      cases h
theorem SR.cons {a : Addr} {o : HO} {c : Cell} (s : SR K fr H ms st) (n : H a = none) (r : CR K fr (upd H a o) (ms ++ [a]) a c) : SR K fr (upd H a o) (ms ++ [a]) (st ++ [c]) := by
  have hn : a ∉ ms := s.no n
  refine ⟨by rw [List.length_append, List.length_append, s.len]; rfl, ?_, fun i b d hb hd => ?_, fun b hb => ?_, fun b h => upd_there (s.low b h)⟩
  · rw [List.nodup_append]
    exact ⟨s.nd, by simp, fun x hx y hy => by rw [List.mem_singleton.mp hy]; exact fun z => hn (z ▸ hx)⟩
  · rcases getElem?_snoc hb with q | ⟨e, rfl⟩
    · have hi := (List.getElem?_eq_some_iff.mp q).1
      rw [List.getElem?_append_left (by rw [← s.len]; exact hi)] at hd
      exact (s.cell i b d q hd).ex s (Ext.cell n) (upd_ne fun z => hn (z ▸ List.mem_of_getElem? q))
    · rw [e, s.len, List.getElem?_append_right (Nat.le_refl _), Nat.sub_self] at hd
      cases hd
      exact r
  · rcases List.mem_append.mp hb with hb | hb
    · exact s.nfr b hb
    · rw [List.mem_singleton.mp hb]
      exact fun z => s.low a z n
/-! ### a cell that is changed -/
theorem Ext.upd {a : Addr} {o : HO} (m : Nat) (h : a ∈ ms) (hH : H a ≠ none) : Ext m fr H ms fr (upd H a o) ms :=
  ⟨rfl, fun b u g nb _ => by rw [upd_ne (fun z : b = a => nb (by rw [z]; exact h))]; exact g, fun b g => upd_there g, fun _ g => .inl g, fun _ g => g, fun _ g => .inl g⟩
theorem SR.set {a : Addr} {o : HO} {c : Cell} {i : Nat} (s : SR K fr H ms st) (h : ms[i]? = some a) (r : CR K fr (upd H a o) ms a c) : SR K fr (upd H a o) ms (st.set i c) := by
  have hm := List.mem_of_getElem? h
  refine ⟨by rw [List.length_set, s.len], s.nd, fun j b d hb hd => ?_, s.nfr, fun b g => upd_there (s.low b g)⟩
  by_cases e : j = i
  · subst e
    rw [h] at hb
    cases hb
    rw [List.getElem?_set_self (by rw [← s.len]; exact (List.getElem?_eq_some_iff.mp h).1)] at hd
    cases hd
    exact r
  · rw [List.getElem?_set_ne fun z => e z.symm] at hd
    refine (s.cell j b d hb hd).ex s (Ext.upd _ hm (s.there hm)) (upd_ne fun z => e ?_)
    subst z
    exact nodup_ne s.nd hb h
theorem SR.at (s : SR K fr H ms st) {v : V} {i : Nat} {c : Cell} (r : VR K fr H ms v (.ref i)) (h : st[i]? = some c) : ∃ a, v = .ref a ∧ ms[i]? = some a ∧ CR K fr H ms a c := by
  cases r with
  | ref g => exact ⟨_, rfl, g, s.cell _ _ _ g h⟩
end
end FL
namespace FL
open PySem PySem.Spec PyProof.Rows L2
/-! ### results -/
/-- an exception: its class, its one field -/
abbrev XV := Str × Option (Str × Val)
inductive R (α : Type) where
  | ok (a : α) (st : Store)
  | exc (x : XV) (st : Store)
  | bad
inductive S where
  | nx (ρ : Env) (st : Store)
  | rt (x : Val) (st : Store)
  | bk (ρ : Env) (st : Store)
  | ct (ρ : Env) (st : Store)
  | ex (x : XV) (ρ : Env) (st : Store)
  | bad
def R.bind {α β : Type} (r : R α) (f : α → Store → R β) : R β := match r with
  | .ok a st => f a st
  | .exc x st => .exc x st
  | .bad => .bad
/-- an expression within a statement -/
def R.to {α : Type} (r : R α) (ρ : Env) (f : α → Store → S) : S := match r with
  | .ok a st => f a st
  | .exc x st => .ex x ρ st
  | .bad => .bad
def S.then (r : S) (f : Env → Store → S) : S := match r with
  | .nx ρ st => f ρ st
  | r => r
abbrev FE := Env → Store → R Val
abbrev FT := Env → Store → R Bool
abbrev FA := Env → Store → R (List Val)
abbrev FO := Env → Store → R (Option Int)
abbrev FS := Env → Store → S
/-- of a value or none -/
def R.opt {α : Type} : Option (α × Store) → R α
  | some (a, st) => .ok a st
  | none => .bad
section
variable (K : PySem.W.Frag)
def XR (fr : Addr → Prop) (H : Hp) (ms : List Addr) (d : Option Addr) (c : XV) : Prop := match c.2 with
  | none => d = none
  | some (f, x) => ∃ dd v, d = some dd ∧ H dd = some (.xd [(f, v)]) ∧ VR K fr H ms v x
/-- what holds of a result -/
def G {α : Type} (W : WX) (σ : L2.St) (fr : Addr → Prop) (H : Hp) (ms : List Addr) (r : R α) (P : α → (Addr → Prop) → Hp → List Addr → Store → Prop) : Prop := match r with
  | .ok a st' => ∀ fr' H' ms', Ext ms.length fr H ms fr' H' ms' → SR K fr' H' ms' st' → P a fr' H' ms' st'
  | .exc x st' => ∀ fr' H' ms' d, Ext ms.length fr H ms fr' H' ms' → SR K fr' H' ms' st' → XR K fr' H' ms' d x → W (.ref (cA K x.1)) d σ H'
  | .bad => False
def PV (Q : VK) : Val → (Addr → Prop) → Hp → List Addr → Store → Prop := fun x fr H ms _ => ∀ v, VR K fr H ms v x → Q v H
def PL (Q : List V → Hp → Prop) : List Val → (Addr → Prop) → Hp → List Addr → Store → Prop := fun xs fr H ms _ => ∀ vs, VRs K fr H ms vs xs → Q vs H
def PT' {α : Type} (Q : α → Hp → Prop) : α → (Addr → Prop) → Hp → List Addr → Store → Prop := fun b _ H _ _ => Q b H
/-- what holds of a statement's result -/
def GS (W : WX) (fr : Addr → Prop) (H : Hp) (ms : List Addr) (r : S) (D : Ends) : Prop := match r with
  | .nx ρ st => ∀ fr' H' ms' σ', Ext ms.length fr H ms fr' H' ms' → Wd K fr' H' ms' σ' ρ st → D.nx σ' H'
  | .rt x st => ∀ fr' H' ms' v, Ext ms.length fr H ms fr' H' ms' → SR K fr' H' ms' st → VR K fr' H' ms' v x → D.rt v H'
  | .bk ρ st => ∀ fr' H' ms' σ', Ext ms.length fr H ms fr' H' ms' → Wd K fr' H' ms' σ' ρ st → D.bk σ' H'
  | .ct ρ st => ∀ fr' H' ms' σ', Ext ms.length fr H ms fr' H' ms' → Wd K fr' H' ms' σ' ρ st → D.ct σ' H'
  | .ex x ρ st => ∀ fr' H' ms' σ' d, Ext ms.length fr H ms fr' H' ms' → Wd K fr' H' ms' σ' ρ st → XR K fr' H' ms' d x → W (.ref (cA K x.1)) d σ' H'
  | .bad => False
def LE (W : WX) (t : FE) : TE := fun σ H Q => ∃ fr ms ρ st, Wd K fr H ms σ ρ st ∧ G K W σ fr H ms (t ρ st) (PV K Q)
def LT (W : WX) (t : FT) : TT := fun σ H Q => ∃ fr ms ρ st, Wd K fr H ms σ ρ st ∧ G K W σ fr H ms (t ρ st) (PT' Q)
def LA (W : WX) (t : FA) : TA := fun σ H Q => ∃ fr ms ρ st, Wd K fr H ms σ ρ st ∧ G K W σ fr H ms (t ρ st) (PL K Q)
def LO (W : WX) (t : FO) : TO := fun σ H Q => ∃ fr ms ρ st, Wd K fr H ms σ ρ st ∧ G K W σ fr H ms (t ρ st) (PT' Q)
def LS (W : WX) (t : FS) : TS := fun D σ H => ∃ fr ms ρ st, Wd K fr H ms σ ρ st ∧ GS K W fr H ms (t ρ st) D
end
abbrev DE (X : Cx) (W : WX) (e : Expr) (t : FE) : Prop := PE X e (LE X.K W t)
abbrev DT (X : Cx) (W : WX) (e : Expr) (t : FT) : Prop := PT X e (LT X.K W t)
abbrev DW (X : Cx) (W : WX) (e : Expr) (t : FT) : Prop := PW X e (LT X.K W t)
abbrev DA (X : Cx) (W : WX) (es : List Expr) (t : FA) : Prop := PA X es (LA X.K W t)
abbrev DO (X : Cx) (W : WX) (e : Option Expr) (t : FO) : Prop := PO X e (LO X.K W t)
abbrev DS (X : Cx) (W : WX) (s : Stmt) (t : FS) : Prop := PS X s (LS X.K W t)
abbrev DSs (X : Cx) (W : WX) (s : List Stmt) (t : FS) : Prop := PSs X s (LS X.K W t)
theorem pe_imp {X : Cx} {e : Expr} {t t' : TE} (h : PE X e t) (i : ∀ σ H Q, t' σ H Q → t σ H Q) : PE X e t' := ⟨fun pins s σ H Q I q => h.run pins s σ H Q I (i _ _ _ q)⟩
theorem pt_imp {X : Cx} {e : Expr} {t t' : TT} (h : PT X e t) (i : ∀ σ H Q, t' σ H Q → t σ H Q) : PT X e t' := ⟨fun pins s σ H Q I q => h.run pins s σ H Q I (i _ _ _ q)⟩
theorem pw_imp {X : Cx} {e : Expr} {t t' : TT} (h : PW X e t) (i : ∀ σ H Q, t' σ H Q → t σ H Q) : PW X e t' := ⟨fun wh pins s σ H Q I q => h.run wh pins s σ H Q I (i _ _ _ q)⟩
theorem pa_imp {X : Cx} {e : List Expr} {t t' : TA} (h : PA X e t) (i : ∀ σ H Q, t' σ H Q → t σ H Q) : PA X e t' := ⟨fun pos pins s σ H Q I q => h.run pos pins s σ H Q I (i _ _ _ q)⟩
theorem ps_imp {X : Cx} {e : Stmt} {t t' : TS} (h : PS X e t) (i : ∀ D σ H, t' D σ H → t D σ H) : PS X e t' := ⟨fun pins s σ H D I q => h.run pins s σ H D I (i _ _ _ q)⟩
theorem pss_imp {X : Cx} {e : List Stmt} {t t' : TS} (h : PSs X e t) (i : ∀ D σ H, t' D σ H → t D σ H) : PSs X e t' := ⟨fun pins s σ H D I q => h.run pins s σ H D I (i _ _ _ q)⟩
theorem po_imp {X : Cx} {e : Option Expr} {t t' : TO} (h : PO X e t) (i : ∀ σ H Q, t' σ H Q → t σ H Q) : PO X e t' := ⟨fun pins s σ H Q I q => h.run pins s σ H Q I (i _ _ _ q)⟩
section
variable {K : PySem.W.Frag} {W : WX} {σ : L2.St} {fr fr1 : Addr → Prop} {H H1 : Hp} {ms ms1 : List Addr} {st st1 : Store} {ρ : Env} {n : Nat} {α β : Type}
theorem G.at {r : R α} {P : α → (Addr → Prop) → Hp → List Addr → Store → Prop} (g : G K W σ fr H ms r P) (e : Ext ms.length fr H ms fr1 H1 ms1) : G K W σ fr1 H1 ms1 r P := by
  cases r with
  | ok a st' => exact fun fr' H' ms' e' s' => g fr' H' ms' (e.then e') s'
  | exc x st' => exact fun fr' H' ms' d e' s' x' => g fr' H' ms' d (e.then e') s' x'
  | bad => exact g
theorem G.mono {r : R α} {P P' : α → (Addr → Prop) → Hp → List Addr → Store → Prop} (g : G K W σ fr H ms r P) (i : ∀ a st' fr' H' ms', Ext ms.length fr H ms fr' H' ms' → SR K fr' H' ms' st' → P a fr' H' ms' st' → P' a fr' H' ms' st') : G K W σ fr H ms r P' := by
  cases r with
  | ok a st' => exact fun fr' H' ms' e' s' => i _ _ _ _ _ e' s' (g fr' H' ms' e' s')
  | exc x st' => exact g
  | bad => exact g
theorem G.now {a : α} {P : α → (Addr → Prop) → Hp → List Addr → Store → Prop} (g : G K W σ fr H ms (.ok a st) P) (s : SR K fr H ms st) : P a fr H ms st := g _ _ _ (Ext.refl _ _ _ _) s
theorem G.bind {r : R α} {f : α → Store → R β} {P : β → (Addr → Prop) → Hp → List Addr → Store → Prop} (g : G K W σ fr H ms (r.bind f) P) :
    G K W σ fr H ms r (fun a fr' H' ms' st' => Ext ms.length fr H ms fr' H' ms' ∧ SR K fr' H' ms' st' ∧ G K W σ fr' H' ms' (f a st') P) := by
  cases r with
  | ok a st' => exact fun fr' H' ms' e' s' => ⟨e', s', G.at g e'⟩
  | exc x st' => exact g
  | bad => exact g
theorem GS.at {r : S} {D : Ends} (g : GS K W fr H ms r D) (e : Ext ms.length fr H ms fr1 H1 ms1) : GS K W fr1 H1 ms1 r D := by
  cases r with
  | nx ρ st => exact fun fr' H' ms' σ' e' w => g _ _ _ _ (e.then e') w
  | rt x st => exact fun fr' H' ms' σ' e' w => g _ _ _ _ (e.then e') w
  | bk ρ st => exact fun fr' H' ms' σ' e' w => g _ _ _ _ (e.then e') w
  | ct ρ st => exact fun fr' H' ms' σ' e' w => g _ _ _ _ (e.then e') w
  | ex x ρ st => exact fun fr' H' ms' σ' d e' w => g _ _ _ _ d (e.then e') w
  | bad => exact g
/-- an expression within a statement -/
theorem GS.to {r : R α} {f : α → Store → S} {D : Ends} (w : Wd K fr H ms σ ρ st) (g : GS K W fr H ms (r.to ρ f) D) :
    G K W σ fr H ms r (fun a fr' H' ms' st' => Ext ms.length fr H ms fr' H' ms' ∧ SR K fr' H' ms' st' ∧ Wd K fr' H' ms' σ ρ st' ∧ GS K W fr' H' ms' (f a st') D) := by
  cases r with
  | ok a st' => exact fun fr' H' ms' e' s' => ⟨e', s', w.on e' s', GS.at g e'⟩
  | exc x st' => exact fun fr' H' ms' d e' s' x' => g _ _ _ _ d e' (w.on e' s') x'
  | bad => exact g
theorem GS.nx {D : Ends} (g : GS K W fr H ms (.nx ρ st) D) (w : Wd K fr H ms σ ρ st) : D.nx σ H := g _ _ _ _ (Ext.refl _ _ _ _) w
theorem GS.bk {D : Ends} (g : GS K W fr H ms (.bk ρ st) D) (w : Wd K fr H ms σ ρ st) : D.bk σ H := g _ _ _ _ (Ext.refl _ _ _ _) w
theorem GS.ct {D : Ends} (g : GS K W fr H ms (.ct ρ st) D) (w : Wd K fr H ms σ ρ st) : D.ct σ H := g _ _ _ _ (Ext.refl _ _ _ _) w
theorem GS.rt {D : Ends} {x : Val} {v : V} (g : GS K W fr H ms (.rt x st) D) (s : SR K fr H ms st) (r : VR K fr H ms v x) : D.rt v H := g _ _ _ _ (Ext.refl _ _ _ _) s r
theorem GS.then {r : S} {f : Env → Store → S} {D : Ends} (g : GS K W fr H ms (r.then f) D) :
    GS K W fr H ms r { D with nx := fun σ' H' => ∃ fr' ms' ρ' st', Wd K fr' H' ms' σ' ρ' st' ∧ GS K W fr' H' ms' (f ρ' st') D } := by
  cases r with
  | nx ρ st => exact fun fr' H' ms' σ' e' w => ⟨fr', ms', ρ, st, w, GS.at g e'⟩
  | rt x st => exact g
  | bk ρ st => exact g
  | ct ρ st => exact g
  | ex x ρ st => exact g
  | bad => exact g
end
theorem takes_none {X : Cx} : Takes X (fun _ _ _ _ => False) := fun u s' ⟨a, B, sI, pins, σ, H, cls, d, e, I, nb, up, sky, na, os, ag, w⟩ => w.elim
/-! ### names, constants -/
def eV (i : Nat) : FE := fun ρ st => match ρ[i]? with
  | some (some x) => .ok x st
  | _ => .bad
def eC (x : Val) : FE := fun _ st => .ok x st
/-- never reached -/
def eBot : FE := fun _ _ => .bad
section
variable {X : Cx} {W : WX} {pos : Pos}
theorem d_v (i : Nat) {x : Str} (hN : X.N[i]? = some x := by rfl) (hv : Vis X.env.scope x := by first | exact Or.inl rfl | exact Or.inr (Or.inl rfl) | exact Or.inr (Or.inr rfl)) (hd : (x == ("__debug__" : Str)) = false := by decide)
    (hcd : (x == ("__classdict__" : Str)) = false := by decide) : DE X W (.Name x pos) (eV i) := pe_imp (pe_var hN hv hd hcd) fun σ H Q ⟨fr, ms, ρ, st, w, g⟩ => by
  unfold eV at g
  split at g
  · next x hx =>
    obtain ⟨v, e, r⟩ := w.env i x hx
    exact ⟨v, e, g.now w.sr v r⟩
  · exact g.elim
theorem d_int {i j} : DE X W (.Constant (.int i) j pos) (eC (.int i)) := pe_imp pe_int fun σ H Q ⟨fr, ms, ρ, st, w, g⟩ => g.now w.sr _ (.int i)
theorem d_bl {b j} : DE X W (.Constant (.bool b) j pos) (eC (.bl b)) := pe_imp pe_bl fun σ H Q ⟨fr, ms, ρ, st, w, g⟩ => g.now w.sr _ (.bl b)
theorem d_non {j} : DE X W (.Constant .none j pos) (eC .non) := pe_imp pe_non fun σ H Q ⟨fr, ms, ρ, st, w, g⟩ => g.now w.sr _ .non
theorem d_str {x j} : DE X W (.Constant (.str x) j pos) (eC (.str x)) := pe_imp pe_str fun σ H Q ⟨fr, ms, ρ, st, w, g⟩ => g.now w.sr _ (.str x)
theorem d_bot {e : Expr} : DE X W e eBot := ⟨fun _ _ _ _ _ _ ⟨_, _, _, _, _, g⟩ => g.elim⟩
end
/-! ### operators -/
abbrev F2 := Val → Val → Store → Option (Val × Store)
abbrev F1 := Val → Store → Option (Val × Store)
abbrev FL1 := List Val → Store → Option (Val × Store)
/-- all that may follow of a value and a store -/
def QV (K : PySem.W.Frag) (fr : Addr → Prop) (H : Hp) (ms : List Addr) (z : Val) (st : Store) (Q : VK) : Prop := ∀ fr' H' ms' v, Ext ms.length fr H ms fr' H' ms' → SR K fr' H' ms' st → VR K fr' H' ms' v z → Q v H'
section
variable {K : PySem.W.Frag} {fr : Addr → Prop} {H : Hp} {ms : List Addr} {st : Store}
theorem QV.now {z : Val} {Q : VK} {v : V} (q : QV K fr H ms z st Q) (s : SR K fr H ms st) (r : VR K fr H ms v z) : Q v H := q _ _ _ _ (Ext.refl _ _ _ _) s r
theorem QV.of {W : WX} {σ : L2.St} {z : Val} {Q : VK} (g : G K W σ fr H ms (.ok z st) (PV K Q)) : QV K fr H ms z st Q := fun fr' H' ms' v e s r => g fr' H' ms' e s v r
theorem QV.tup {xs : List Val} {Q : VK} {vs : List V} (q : QV K fr H ms (.tup xs) st Q) (s : SR K fr H ms st) (r : VRs K fr H ms vs xs) {p : Addr} (n : H p = none) : Q (.ref p) (upd H p (.tup vs)) :=
  q _ _ _ _ (Ext.new _ n) (s.new n) (.tup (SqT.of upd_same) (r.ex s (Ext.new _ n)))
/-- a new list: a cell, or frozen -/
def newL (c : Bool) (xs : List Val) (st : Store) : Val × Store := match c with
  | true => (.ref st.length, st ++ [.lst xs])
  | false => (.ro xs, st)
theorem QV.newl {c : Bool} {xs : List Val} {Q : VK} {vs : List V} (q : QV K fr H ms (newL c xs st).1 (newL c xs st).2 Q) (s : SR K fr H ms st) (r : VRs K fr H ms vs xs) {p : Addr} (n : H p = none) : Q (.ref p) (upd H p (.lst vs)) := by
  cases c with
  | true =>
    refine q _ _ (ms ++ [p]) _ (Ext.cell n) (s.cons n ⟨vs, upd_same, r.ex s (Ext.cell n)⟩) (.ref ?_)
    rw [List.getElem?_append_right (by rw [s.len]; exact Nat.le_refl _), s.len, Nat.sub_self]
    rfl
  | false => exact q _ _ ms _ (Ext.fz _ n) (s.fzn n) (.ro upd_same (.inr rfl) (r.ex s (Ext.fz _ n)))
end
def R2F (K : PySem.W.Frag) (r : R2) (f : F2) : Prop := ∀ fr H ms st x y sx sy z st' Q, SR K fr H ms st → VR K fr H ms x sx → VR K fr H ms y sy → f sx sy st = some (z, st') → QV K fr H ms z st' Q → r x y H Q
def R1F (K : PySem.W.Frag) (r : V → Hp → VK → Prop) (f : F1) : Prop := ∀ fr H ms st x sx z st' Q, SR K fr H ms st → VR K fr H ms x sx → f sx st = some (z, st') → QV K fr H ms z st' Q → r x H Q
def RLF (K : PySem.W.Frag) (r : List V → Hp → VK → Prop) (f : FL1) : Prop := ∀ fr H ms st xs sxs z st' Q, SR K fr H ms st → VRs K fr H ms xs sxs → f sxs st = some (z, st') → QV K fr H ms z st' Q → r xs H Q
def eOp (f : F2) (ta tb : FE) : FE := fun ρ st => (ta ρ st).bind fun x st1 => (tb ρ st1).bind fun y st2 => R.opt (f x y st2)
def eUn (f : F1) (ta : FE) : FE := fun ρ st => (ta ρ st).bind fun x st1 => R.opt (f x st1)
theorem G.opt {K : PySem.W.Frag} {W : WX} {σ : L2.St} {fr : Addr → Prop} {H : Hp} {ms : List Addr} {o : Option (Val × Store)} {Q : VK} (g : G K W σ fr H ms (R.opt o) (PV K Q)) : ∃ z st', o = some (z, st') ∧ QV K fr H ms z st' Q := by
  cases o with
  | none => exact g.elim
  | some p => exact ⟨p.1, p.2, rfl, QV.of g⟩
section
variable {X : Cx} {W : WX} {pos : Pos} {a b c : Expr} {ta tb tc : FE} {r r' : R2} {f f' : F2}
theorem le_op {K : PySem.W.Frag} (h : R2F K r f) {σ : L2.St} {H : Hp} {Q : VK} : LE K W (eOp f ta tb) σ H Q → tOp r (LE K W ta) (LE K W tb) σ H Q := by
  rintro ⟨fr, ms, ρ, st, w, g⟩
  refine ⟨fr, ms, ρ, st, w, g.bind.mono fun x st1 fr1 H1 ms1 _ _ ⟨e1, s1, g1⟩ v rv => ?_⟩
  refine ⟨fr1, ms1, ρ, st1, w.on e1 s1, g1.bind.mono fun y st2 fr2 H2 ms2 _ _ ⟨e2, s2, g2⟩ u ru => ?_⟩
  obtain ⟨z, st3, hf, q⟩ := g2.opt
  exact h _ _ _ _ _ _ _ _ _ _ Q s2 (rv.ex s1 e2) ru hf q
theorem le_un {K : PySem.W.Frag} {r : V → Hp → VK → Prop} {f : F1} (h : R1F K r f) {σ : L2.St} {H : Hp} {Q : VK} : LE K W (eUn f ta) σ H Q → tUn r (LE K W ta) σ H Q := by
  rintro ⟨fr, ms, ρ, st, w, g⟩
  refine ⟨fr, ms, ρ, st, w, g.bind.mono fun x st1 fr1 H1 ms1 _ _ ⟨e1, s1, g1⟩ v rv => ?_⟩
  obtain ⟨z, st3, hf, q⟩ := g1.opt
  exact h _ _ _ _ _ _ _ _ Q s1 rv hf q
theorem d_op {op : Operator} (ho : OpR X (binaryOp op) r) (h : R2F X.K r f) (ha : DE X W a ta) (hb : DE X W b tb) : DE X W (.BinOp a op b pos) (eOp f ta tb) := pe_imp (pe_op ho ha hb) fun _ _ _ => le_op h
theorem d_un {op : UnaryOp} {r : V → Hp → VK → Prop} {f : F1} (ho : UnR X (unaryOp op) r) (h : R1F X.K r f) (ha : DE X W a ta) : DE X W (.UnaryOp op a pos) (eUn f ta) := pe_imp (pe_un ho ha) fun _ _ _ => le_un h
theorem d_cmp {op : CmpOp} (ho : OpR X (compareOp op) r) (h : R2F X.K r f) (ha : DE X W a ta) (hb : DE X W b tb) (hm : behindInMarks op b = false) : DE X W (.Compare a [op] [b] pos) (eOp f ta tb) := pe_imp (pe_cmpR ho ha hb hm) fun _ _ _ => le_op h
/-- a value as a test: it must be a truth -/
def tB (t : FE) : FT := fun ρ st => (t ρ st).bind fun x st1 => match x with
  | .bl b => .ok b st1
  | _ => .bad
theorem vr_bl {K : PySem.W.Frag} {fr : Addr → Prop} {H : Hp} {ms : List Addr} {v : V} {b : Bool} (h : VR K fr H ms v (.bl b)) : v = .bl b := by cases h; rfl
theorem vr_int {K : PySem.W.Frag} {fr : Addr → Prop} {H : Hp} {ms : List Addr} {v : V} {b : Int} (h : VR K fr H ms v (.int b)) : v = .int b := by cases h; rfl
theorem vr_str {K : PySem.W.Frag} {fr : Addr → Prop} {H : Hp} {ms : List Addr} {v : V} {b : Str} (h : VR K fr H ms v (.str b)) : v = .str b := by cases h; rfl
theorem vr_non {K : PySem.W.Frag} {fr : Addr → Prop} {H : Hp} {ms : List Addr} {v : V} (h : VR K fr H ms v .non) : v = .non := by cases h; rfl
theorem lt_test {K : PySem.W.Frag} {t : FE} {σ : L2.St} {H : Hp} {Q : Bool → Hp → Prop} : LT K W (tB t) σ H Q → tTest (LE K W t) σ H Q := by
  rintro ⟨fr, ms, ρ, st, w, g⟩
  refine ⟨fr, ms, ρ, st, w, g.bind.mono fun x st1 fr1 H1 ms1 _ _ ⟨e1, s1, g1⟩ v rv => ?_⟩
  split at g1
  · exact ⟨_, vr_bl rv, g1.now s1⟩
  · exact g1.elim
theorem t_val {e : Expr} {t : FE} (h : DE X W e t) (he : ∀ whole, isTrue e X.env whole = (do let v ← whole; standAt e.pos; holding [v] (truthy v)) := by intro _; rfl) : DT X W e (tB t) := pt_imp (pt_val h he) fun _ _ _ => lt_test
theorem LE.mono {K : PySem.W.Frag} {t : FE} {σ : L2.St} {H : Hp} {Q Q' : VK} (h : LE K W t σ H Q) (i : ∀ v H, Q v H → Q' v H) : LE K W t σ H Q' := by
  obtain ⟨fr, ms, ρ, st, w, g⟩ := h
  exact ⟨fr, ms, ρ, st, w, g.mono fun x st1 fr1 H1 ms1 _ _ p v rv => i _ _ (p v rv)⟩
theorem lt_le {K : PySem.W.Frag} {t : FE} {σ : L2.St} {H : Hp} {Q : Bool → Hp → Prop} (h : LT K W (tB t) σ H Q) : LE K W t σ H fun v H' => ∃ b, v = .bl b ∧ Q b H' := lt_test h
theorem t_cmp {op : CmpOp} (ho : OpR X (compareOp op) r) (h : R2F X.K r f) (ha : DE X W a ta) (hb : DE X W b tb) (hm : behindInMarks op b = false) : DT X W (.Compare a [op] [b] pos) (tB (eOp f ta tb)) :=
  pt_imp (pt_cmpR ho ha hb hm) fun σ H Q h1 => le_op h (lt_le h1)
def eChain (f f' : F2) (ta tb tc : FE) : FE := fun ρ st => (ta ρ st).bind fun x st1 => (tb ρ st1).bind fun y st2 => (R.opt (f x y st2)).bind fun z st3 => match z with
  | .bl true => (tc ρ st3).bind fun u st4 => R.opt (f' y u st4)
  | .bl false => .ok (.bl false) st3
  | _ => .bad
theorem le_chain {K : PySem.W.Frag} (h : R2F K r f) (h' : R2F K r' f') {σ : L2.St} {H : Hp} {Q : VK} : LE K W (eChain f f' ta tb tc) σ H Q → tChain r r' (LE K W ta) (LE K W tb) (LE K W tc) σ H Q := by
  rintro ⟨fr, ms, ρ, st, w, g⟩
  refine ⟨fr, ms, ρ, st, w, g.bind.mono fun x st1 fr1 H1 ms1 _ _ ⟨e1, s1, g1⟩ v rv => ?_⟩
  have w1 := w.on e1 s1
  refine ⟨fr1, ms1, ρ, st1, w1, g1.bind.mono fun y st2 fr2 H2 ms2 _ _ ⟨e2, s2, g2⟩ u ru => ?_⟩
  have w2 := w1.on e2 s2
  cases hz : f x y st2 with
  | none =>
    rw [hz] at g2
    exact g2.elim
  | some p =>
    obtain ⟨z, st3⟩ := p
    rw [hz] at g2
    refine h _ _ _ _ _ _ _ _ _ _ _ s2 (rv.ex s1 e2) ru hz fun fr3 H3 ms3 z' e3 s3 r3 => ?_
    have g3 := g2.at e3
    have w3 := w2.on e3 s3
    show ∃ k, _
    have g4 : G K W σ fr3 H3 ms3 (match z with
      | .bl true => (tc ρ st3).bind fun u st4 => R.opt (f' y u st4)
      | .bl false => .ok (.bl false) st3
      | _ => .bad) (PV K Q) := g3
    split at g4
    · refine ⟨true, vr_bl r3, ?_⟩
      rw [if_pos rfl]
      refine ⟨fr3, ms3, ρ, st3, w3, g4.bind.mono fun u' st4 fr4 H4 ms4 _ _ ⟨e4, s4, g5⟩ v4 r4 => ?_⟩
      obtain ⟨z2, st5, hf, q⟩ := g5.opt
      exact h' _ _ _ _ _ _ _ _ _ _ Q s4 (ru.ex s2 (e3.then e4)) r4 hf q
    · refine ⟨false, vr_bl r3, ?_⟩
      rw [if_neg Bool.false_ne_true]
      exact g4.now s3 _ (.bl false)
    · exact g4.elim
theorem d_chain {op op' : CmpOp} (ho : OpR X (compareOp op) r) (h : R2F X.K r f) (ho' : OpR X (compareOp op') r') (h' : R2F X.K r' f') (ha : DE X W a ta) (hb : DE X W b tb) (hc : DE X W c tc)
    (hm : lastMarks [op, op'] [b, c] = false := by with_unfolding_all rfl) : DE X W (.Compare a [op, op'] [b, c] pos) (eChain f f' ta tb tc) := pe_imp (pe_chain ho ho' ha hb hc hm) fun _ _ _ => le_chain h h'
theorem t_chain {op op' : CmpOp} (ho : OpR X (compareOp op) r) (h : R2F X.K r f) (ho' : OpR X (compareOp op') r') (h' : R2F X.K r' f') (ha : DE X W a ta) (hb : DE X W b tb) (hc : DE X W c tc)
    (hm : lastMarks [op, op'] [b, c] = false := by with_unfolding_all rfl) : DT X W (.Compare a [op, op'] [b, c] pos) (tB (eChain f f' ta tb tc)) := pt_imp (pt_chain ho ho' ha hb hc hm) fun σ H Q h1 => le_chain h h' (lt_le h1)
/-! ### and, or, not, .. if .. else -/
def tAnd (t u : FT) : FT := fun ρ st => (t ρ st).bind fun c st1 => bif c then u ρ st1 else .ok false st1
def tOr (t u : FT) : FT := fun ρ st => (t ρ st).bind fun c st1 => bif c then .ok true st1 else u ρ st1
def tNot (t : FT) : FT := fun ρ st => (t ρ st).bind fun c st1 => .ok (!c) st1
def eAnd (t u : FE) : FE := fun ρ st => (t ρ st).bind fun c st1 => match c with
  | .bl true => u ρ st1
  | .bl false => .ok (.bl false) st1
  | _ => .bad
def eOr (t u : FE) : FE := fun ρ st => (t ρ st).bind fun c st1 => match c with
  | .bl true => .ok (.bl true) st1
  | .bl false => u ρ st1
  | _ => .bad
def eNot (t : FE) : FE := fun ρ st => (t ρ st).bind fun c st1 => match c with
  | .bl b => .ok (.bl (!b)) st1
  | _ => .bad
def eIf (t : FT) (u v : FE) : FE := fun ρ st => (t ρ st).bind fun c st1 => bif c then u ρ st1 else v ρ st1
variable {tA tB' : FT} {rest : List Expr}
theorem w_and1 (h : DT X W a tA) : DW X W (.BoolOp .And [a] pos) tA := pw_and1 h
theorem w_or1 (h : DT X W a tA) : DW X W (.BoolOp .Or [a] pos) tA := pw_or1 h
theorem w_and (ha : DT X W a tA) (hb : DW X W (.BoolOp .And (b :: rest) pos) tB') : DW X W (.BoolOp .And (a :: b :: rest) pos) (tAnd tA tB') := pw_imp (pw_and ha hb) fun σ H Q ⟨fr, ms, ρ, st, w, g⟩ =>
  ⟨fr, ms, ρ, st, w, g.bind.mono fun c st1 fr1 H1 ms1 _ _ ⟨e1, s1, g1⟩ => by
    cases c with
    | true => dsimp only [PT']; rw [if_pos rfl]; exact ⟨fr1, ms1, ρ, st1, w.on e1 s1, g1⟩
    | false => dsimp only [PT']; rw [if_neg Bool.false_ne_true]; exact (g1.now s1)⟩
theorem w_or (ha : DT X W a tA) (hb : DW X W (.BoolOp .Or (b :: rest) pos) tB') : DW X W (.BoolOp .Or (a :: b :: rest) pos) (tOr tA tB') := pw_imp (pw_or ha hb) fun σ H Q ⟨fr, ms, ρ, st, w, g⟩ =>
  ⟨fr, ms, ρ, st, w, g.bind.mono fun c st1 fr1 H1 ms1 _ _ ⟨e1, s1, g1⟩ => by
    cases c with
    | true => dsimp only [PT']; rw [if_pos rfl]; exact (g1.now s1)
    | false => dsimp only [PT']; rw [if_neg Bool.false_ne_true]; exact ⟨fr1, ms1, ρ, st1, w.on e1 s1, g1⟩⟩
theorem t_not (ha : DT X W a tA) : DT X W (.UnaryOp .Not a pos) (tNot tA) := pt_imp (pt_not ha) fun σ H Q ⟨fr, ms, ρ, st, w, g⟩ =>
  ⟨fr, ms, ρ, st, w, g.bind.mono fun c st1 fr1 H1 ms1 _ _ ⟨e1, s1, g1⟩ => g1.now s1⟩
theorem d_one {op} {t : FE} (h : DE X W a t) : DE X W (.BoolOp op [a] pos) t := pe_one h
theorem d_and (ha : DE X W a ta) (hb : DE X W (.BoolOp .And (b :: rest) pos) tb) : DE X W (.BoolOp .And (a :: b :: rest) pos) (eAnd ta tb) := pe_imp (pe_and ha hb) fun σ H Q ⟨fr, ms, ρ, st, w, g⟩ =>
  ⟨fr, ms, ρ, st, w, g.bind.mono fun c st1 fr1 H1 ms1 _ _ ⟨e1, s1, g1⟩ v rv => by
    split at g1
    · exact ⟨true, vr_bl rv, iteT ⟨fr1, ms1, ρ, st1, w.on e1 s1, g1⟩⟩
    · exact ⟨false, vr_bl rv, iteF (g1.now s1 _ (.bl false))⟩
    · exact g1.elim⟩
theorem d_or (ha : DE X W a ta) (hb : DE X W (.BoolOp .Or (b :: rest) pos) tb) : DE X W (.BoolOp .Or (a :: b :: rest) pos) (eOr ta tb) := pe_imp (pe_or ha hb) fun σ H Q ⟨fr, ms, ρ, st, w, g⟩ =>
  ⟨fr, ms, ρ, st, w, g.bind.mono fun c st1 fr1 H1 ms1 _ _ ⟨e1, s1, g1⟩ v rv => by
    split at g1
    · exact ⟨true, vr_bl rv, iteT (g1.now s1 _ (.bl true))⟩
    · exact ⟨false, vr_bl rv, iteF ⟨fr1, ms1, ρ, st1, w.on e1 s1, g1⟩⟩
    · exact g1.elim⟩
theorem d_not (ha : DE X W a ta) : DE X W (.UnaryOp .Not a pos) (eNot ta) := pe_imp (pe_not ha) fun σ H Q ⟨fr, ms, ρ, st, w, g⟩ =>
  ⟨fr, ms, ρ, st, w, g.bind.mono fun c st1 fr1 H1 ms1 _ _ ⟨e1, s1, g1⟩ v rv => by
    split at g1
    · exact ⟨_, vr_bl rv, g1.now s1 _ (.bl _)⟩
    · exact g1.elim⟩
theorem d_if (hc : DT X W c tA) (ha : DE X W a ta) (hb : DE X W b tb) : DE X W (.IfExp c a b pos) (eIf tA ta tb) := pe_imp (pe_ifExp hc ha hb) fun σ H Q ⟨fr, ms, ρ, st, w, g⟩ =>
  ⟨fr, ms, ρ, st, w, g.bind.mono fun c st1 fr1 H1 ms1 _ _ ⟨e1, s1, g1⟩ => by
    cases c with
    | true => dsimp only [PT']; rw [if_pos rfl]; exact ⟨fr1, ms1, ρ, st1, w.on e1 s1, g1⟩
    | false => dsimp only [PT']; rw [if_neg Bool.false_ne_true]; exact ⟨fr1, ms1, ρ, st1, w.on e1 s1, g1⟩⟩
end
/-! ### arguments, displays -/
def aNil : FA := fun _ st => .ok [] st
def aCons (ta : FE) (tr : FA) : FA := fun ρ st => (ta ρ st).bind fun x st1 => (tr ρ st1).bind fun xs st2 => .ok (x :: xs) st2
def eTup (ta : FA) : FE := fun ρ st => (ta ρ st).bind fun xs st1 => bif Nat.ble xs.length sizeLine then .ok (.tup xs) st1 else .bad
def eLst (c : Bool) (ta : FA) : FE := fun ρ st => (ta ρ st).bind fun xs st1 => bif Nat.ble xs.length sizeLine then .ok (newL c xs st1).1 (newL c xs st1).2 else .bad
theorem G.cond {K : PySem.W.Frag} {W : WX} {σ : L2.St} {fr : Addr → Prop} {H : Hp} {ms : List Addr} {α : Type} {b : Bool} {r : R α} {P : α → (Addr → Prop) → Hp → List Addr → Store → Prop} (g : G K W σ fr H ms (bif b then r else .bad) P) : b = true ∧ G K W σ fr H ms r P := by
  cases b with
  | true => exact ⟨rfl, g⟩
  | false => exact g.elim
section
variable {X : Cx} {W : WX} {pos : Pos} {e : Expr} {es : List Expr} {te : FE} {t : FA}
theorem a_nil : DA X W [] aNil := pa_imp pa_nil fun σ H Q ⟨fr, ms, ρ, st, w, g⟩ => g.now w.sr [] .nil
theorem a_cons (ha : DE X W e te) (hr : DA X W es t) (hs : starEach (e :: es) X.env = (false, eval e X.env) :: starEach es X.env := by rfl) : DA X W (e :: es) (aCons te t) := pa_imp (pa_cons ha hr hs) fun σ H Q ⟨fr, ms, ρ, st, w, g⟩ =>
  ⟨fr, ms, ρ, st, w, g.bind.mono fun x st1 fr1 H1 ms1 _ _ ⟨e1, s1, g1⟩ v rv => ⟨fr1, ms1, ρ, st1, w.on e1 s1, g1.bind.mono fun xs st2 fr2 H2 ms2 _ _ ⟨e2, s2, g2⟩ vs rs => g2.now s2 _ (.cons (rv.ex s1 e2) rs)⟩⟩
theorem d_tup {x1} (h : DA X W es t) : DE X W (.Tuple es x1 pos) (eTup t) := pe_imp (pe_tup h) fun σ H Q ⟨fr, ms, ρ, st, w, g⟩ =>
  ⟨fr, ms, ρ, st, w, g.bind.mono fun xs st1 fr1 H1 ms1 _ _ ⟨e1, s1, g1⟩ vs rs => by
    obtain ⟨hb, g2⟩ := g1.cond
    exact ⟨by rw [rs.length]; exact Nat.le_of_ble_eq_true hb, fun p n => (QV.of g2).tup s1 rs n⟩⟩
theorem d_lst (c : Bool) (h : DA X W es t) : DE X W (.List es pos) (eLst c t) := pe_imp (pe_lst h) fun σ H Q ⟨fr, ms, ρ, st, w, g⟩ =>
  ⟨fr, ms, ρ, st, w, g.bind.mono fun xs st1 fr1 H1 ms1 _ _ ⟨e1, s1, g1⟩ vs rs => by
    obtain ⟨hb, g2⟩ := g1.cond
    exact ⟨by rw [rs.length]; exact Nat.le_of_ble_eq_true hb, fun p n => (QV.of g2).newl s1 rs n⟩⟩
end
end FL
namespace FL
open PySem PySem.Spec PyProof.Rows L2
/-! ### statements -/
def sNext : FS := fun ρ st => .nx ρ st
def sBrk : FS := fun ρ st => .bk ρ st
def sCnt : FS := fun ρ st => .ct ρ st
def sSeq (t u : FS) : FS := fun ρ st => (t ρ st).then u
def sDrop (te : FE) : FS := fun ρ st => (te ρ st).to ρ fun _ st1 => .nx ρ st1
def sRet (te : FE) : FS := fun ρ st => (te ρ st).to ρ fun x st1 => .rt x st1
def sRetN : FS := fun _ st => .rt .non st
def sIf (c : FT) (t u : FS) : FS := fun ρ st => (c ρ st).to ρ fun b st1 => bif b then t ρ st1 else u ρ st1
def sNever : FS := fun _ _ => .bad
section
variable {X : Cx} {W : WX} {s : Stmt} {rest a b : List Stmt} {t u : FS} {e c : Expr} {te : FE} {tc : FT} {pos : Pos}
theorem ss_nil : DSs X W [] sNext := pss_imp pss_nil fun D σ H ⟨fr, ms, ρ, st, w, g⟩ => g.nx w
theorem le_seq {K : PySem.W.Frag} {D : Ends} {σ : L2.St} {H : Hp} : LS K W (sSeq t u) D σ H → tSeq (LS K W t) (LS K W u) D σ H := fun ⟨fr, ms, ρ, st, w, g⟩ => ⟨fr, ms, ρ, st, w, g.then⟩
theorem ss_cons (h1 : DS X W s t) (h2 : DSs X W rest u) : DSs X W (s :: rest) (sSeq t u) := pss_imp (pss_cons h1 h2) fun _ _ _ => le_seq
theorem ss_one (h : DS X W s t) : DSs X W [s] t := pss_one h
theorem s_pass : DS X W (.Pass pos) sNext := ps_imp ps_pass fun D σ H ⟨fr, ms, ρ, st, w, g⟩ => g.nx w
theorem s_brk : DS X W (.Break pos) sBrk := ps_imp ps_break fun D σ H ⟨fr, ms, ρ, st, w, g⟩ => g.bk w
theorem s_cnt : DS X W (.Continue pos) sCnt := ps_imp ps_continue fun D σ H ⟨fr, ms, ρ, st, w, g⟩ => g.ct w
theorem s_doc {x j p} : DS X W (.Expr (.Constant (.str x) j p) pos) sNext := ps_imp ps_doc fun D σ H ⟨fr, ms, ρ, st, w, g⟩ => g.nx w
theorem s_drop (he : DE X W e te) (hs : swapsWith e none pos.line X.env = pure false := by rfl) : DS X W (.Expr e pos) (sDrop te) := ps_imp (ps_expr he hs) fun D σ H ⟨fr, ms, ρ, st, w, g⟩ =>
  ⟨fr, ms, ρ, st, w, (g.to w).mono fun x st1 fr1 H1 ms1 _ _ ⟨e1, s1, w1, g1⟩ v rv => g1.nx w1⟩
theorem s_ret (he : DE X W e te) : DS X W (.Return (some e) pos) (sRet te) := ps_imp (ps_ret he) fun D σ H ⟨fr, ms, ρ, st, w, g⟩ =>
  ⟨fr, ms, ρ, st, w, (g.to w).mono fun x st1 fr1 H1 ms1 _ _ ⟨e1, s1, w1, g1⟩ v rv => g1.rt s1 rv⟩
theorem s_retN : DS X W (.Return none pos) sRetN := ps_imp ps_retN fun D σ H ⟨fr, ms, ρ, st, w, g⟩ => g.rt w.sr .non
theorem s_if (hc : DT X W c tc) (ha : DSs X W a t) (hb : DSs X W b u) : DS X W (.If c a b pos) (sIf tc t u) := ps_imp (ps_if hc ha hb) fun D σ H ⟨fr, ms, ρ, st, w, g⟩ =>
  ⟨fr, ms, ρ, st, w, (g.to w).mono fun d st1 fr1 H1 ms1 _ _ ⟨e1, s1, w1, g1⟩ => by
    dsimp only [PT']
    cases d with
    | true => rw [if_pos rfl]; exact ⟨fr1, ms1, ρ, st1, w1, g1⟩
    | false => rw [if_neg Bool.false_ne_true]; exact ⟨fr1, ms1, ρ, st1, w1, g1⟩⟩
theorem s_never : DS X W s sNever := ps_imp ps_never fun D σ H ⟨fr, ms, ρ, st, w, g⟩ => g.elim
theorem ss_never : DSs X W rest sNever := pss_imp pss_never fun D σ H ⟨fr, ms, ρ, st, w, g⟩ => g.elim
end
/-! ### targets -/
abbrev FG := Val → Env → Store → Option (Env × Store)
abbrev FGs := List Val → Env → Store → Option (Env × Store)
def LG (K : PySem.W.Frag) (vs : List Nat) (t : FG) : TG := fun v σ H Q => ∃ fr ms ρ st x ρ' st', Wd K fr H ms σ ρ st ∧ VR K fr H ms v x ∧ t x ρ st = some (ρ', st') ∧
  ∀ fr' H' ms' σ', Ext ms.length fr H ms fr' H' ms' → Wd K fr' H' ms' σ' ρ' st' → wipe σ' vs = wipe σ vs → Q σ' H'
def LGs (K : PySem.W.Frag) (vs : List Nat) (t : FGs) : TGs := fun v σ H Q => ∃ fr ms ρ st x ρ' st', Wd K fr H ms σ ρ st ∧ VRs K fr H ms v x ∧ t x ρ st = some (ρ', st') ∧
  ∀ fr' H' ms' σ', Ext ms.length fr H ms fr' H' ms' → Wd K fr' H' ms' σ' ρ' st' → wipe σ' vs = wipe σ vs → Q σ' H'
abbrev DG (X : Cx) (vs : List Nat) (e : Expr) (t : FG) : Prop := PG X e (LG X.K vs t)
abbrev DGs (X : Cx) (vs : List Nat) (e : List Expr) (t : FGs) : Prop := PGs X e (LGs X.K vs t)
theorem pg_imp {X : Cx} {e : Expr} {t t' : TG} (h : PG X e t) (i : ∀ v σ H Q, t' v σ H Q → t v σ H Q) : PG X e t' := ⟨fun pins s σ H v u Q I r q => h.run pins s σ H v u Q I r (i _ _ _ _ q)⟩
theorem pgs_imp {X : Cx} {e : List Expr} {t t' : TGs} (h : PGs X e t) (i : ∀ v σ H Q, t' v σ H Q → t v σ H Q) : PGs X e t' := ⟨fun pins s σ H v u Q I r q => h.run pins s σ H v u Q I r (i _ _ _ _ q)⟩
def gN (i : Nat) : FG := fun x ρ st => some (ρ.set i (some x), st)
def gNil : FGs := fun xs ρ st => match xs with
  | [] => some (ρ, st)
  | _ => none
def gCons (t : FG) (u : FGs) : FGs := fun xs ρ st => match xs with
  | x :: r => (match t x ρ st with
    | some (ρ1, st1) => u r ρ1 st1
    | none => none)
  | [] => none
def gTup (n : Nat) (t : FGs) : FG := fun x ρ st => match x with
  | .tup xs => bif xs.length == n then t xs ρ st else none
  | _ => none
theorem wipe_mem {v : Option V} {i : Nat} : ∀ {vs : List Nat} {σ : L2.St}, i ∈ vs → wipe (σ.set i v) vs = wipe σ vs
  | [], _, h => by cases h
  | j :: r, σ, h => by
    unfold wipe
    by_cases e : i ∈ r
    · rw [wipe_mem e]
    · have hj : i = j := (List.mem_cons.mp h).elim id fun z => absurd z e
      subst hj
      apply List.ext_getElem?
      intro m
      by_cases hm : i = m
      · subst hm
        have hl : (wipe (σ.set i v) r).length = (wipe σ r).length := by rw [wipe_length, wipe_length, List.length_set]
        by_cases hb : i < (wipe σ r).length
        · rw [List.getElem?_set_self (by rw [hl]; exact hb), List.getElem?_set_self hb]
        · rw [List.getElem?_eq_none (by rw [List.length_set, hl]; omega), List.getElem?_eq_none (by rw [List.length_set]; omega)]
      · rw [List.getElem?_set_ne hm, List.getElem?_set_ne hm]
        by_cases hr : m ∈ r
        · have hn : ∀ (τ : L2.St), (wipe τ r)[m]? = if m < τ.length then some none else none := by
            intro τ
            clear hm e h
            induction r with
            | nil => cases hr
            | cons a r ih =>
              unfold wipe
              by_cases ha : a = m
              · subst ha
                by_cases hb : a < τ.length
                · rw [List.getElem?_set_self (by rw [wipe_length]; exact hb), if_pos hb]
                · rw [List.getElem?_eq_none (by rw [List.length_set, wipe_length]; omega), if_neg hb]
              · rw [List.getElem?_set_ne ha]
                exact ih ((List.mem_cons.mp hr).elim (fun z => absurd z.symm ha) id)
          rw [hn, hn, List.length_set]
        · rw [wipe_out hr, wipe_out hr, List.getElem?_set_ne hm]
theorem vr_tup {K : PySem.W.Frag} {fr : Addr → Prop} {H : Hp} {ms : List Addr} {v : V} {xs : List Val} (h : VR K fr H ms v (.tup xs)) : ∃ a ws, v = .ref a ∧ SqT K H a ws ∧ VRs K fr H ms ws xs := by
  cases h with
  | tup h r => exact ⟨_, _, rfl, h, r⟩
section
variable {X : Cx} {pos : Pos} {e : Expr} {es : List Expr} {t : FG} {u : FGs} {vs : List Nat}
theorem g_name (i : Nat) {x : Str} (hN : X.N.Nodup) (hi : X.N[i]? = some x := by rfl) (hx : Loc X.env.scope x := by first | exact Or.inl rfl | exact Or.inr rfl) (hm : i ∈ vs := by decide) (hf : X.fn x = true ∨ X.env.scope.names.lookup x = some .local := by first | exact .inl rfl | exact .inr rfl) :
    DG X vs (.Name x pos) (gN i) := pg_imp (pg_name hN hi hx hf) fun v σ H Q ⟨fr, ms, ρ, st, x, ρ', st', w, r, h, q⟩ => by
  cases h
  exact q _ _ _ _ (Ext.refl _ _ _ _) (w.put r i) (wipe_mem hm)
theorem g_nil : DGs X vs [] gNil := pgs_imp pgs_nil fun v σ H Q ⟨fr, ms, ρ, st, x, ρ', st', w, r, h, q⟩ => by
  cases r with
  | nil =>
    cases h
    exact ⟨rfl, q _ _ _ _ (Ext.refl _ _ _ _) w rfl⟩
  | cons _ _ => cases h
theorem g_cons (h1 : DG X vs e t) (h2 : DGs X vs es u) (hs : (assignEach (e :: es) X.env).map (·.2) = assign e X.env :: (assignEach es X.env).map (·.2) := by rfl) : DGs X vs (e :: es) (gCons t u) :=
  pgs_imp (pgs_cons h1 h2 hs) fun v σ H Q ⟨fr, ms, ρ, st, x, ρ', st', w, r, h, q⟩ => by
    cases r with
    | nil => cases h
    | cons r rr =>
      unfold gCons at h
      dsimp only at h
      split at h
      · next ρ1 st1 h1 =>
        refine ⟨_, _, rfl, fr, ms, ρ, st, _, ρ1, st1, w, r, h1, fun fr1 H1 ms1 σ1 e1 w1 c1 => ?_⟩
        exact ⟨fr1, ms1, ρ1, st1, _, ρ', st', w1, rr.ex w.sr e1, h, fun fr2 H2 ms2 σ2 e2 w2 c2 => q _ _ _ _ (e1.then e2) w2 (c2.trans c1)⟩
      · cases h
theorem g_tup {k : Nat} {n : Nat} (hc : X.calm = true) (h : DGs X vs es u) (hn : (assignEach es X.env).length = n := by rfl) (hst : (assignEach es X.env).findIdx? (·.1) = none := by rfl) : DG X vs (.Tuple es k pos) (gTup n u) :=
  pg_imp (pg_tup hc h hn hst) fun v σ H Q ⟨fr, ms, ρ, st, x, ρ', st', w, r, h, q⟩ => by
    unfold gTup at h
    split at h
    · next xs =>
      obtain ⟨a, ws, rfl, hs, hr⟩ := vr_tup r
      cases e : (xs.length == n) with
      | true =>
        rw [e] at h
        exact ⟨_, _, rfl, hs, by rw [hr.length]; exact of_decide_eq_true (by simpa using e), fr, ms, ρ, st, _, ρ', st', w, hr, h, q⟩
      | false =>
        rw [e] at h
        cases h
    · cases h
end
def sAsg (te : FE) (g : FG) : FS := fun ρ st => (te ρ st).to ρ fun x st1 => match g x ρ st1 with
  | some (ρ', st') => .nx ρ' st'
  | none => .bad
theorem le_asg {K : PySem.W.Frag} {W : WX} {te : FE} {g : FG} {vs : List Nat} {D : Ends} {σ : L2.St} {H : Hp} : LS K W (sAsg te g) D σ H → tAsg (LE K W te) (LG K vs g) D σ H := fun ⟨fr, ms, ρ, st, w, g0⟩ =>
  ⟨fr, ms, ρ, st, w, (g0.to w).mono fun x st1 fr1 H1 ms1 _ _ ⟨e1, s1, w1, g1⟩ v rv => by
    cases h : g x ρ st1 with
    | none =>
      rw [h] at g1
      exact g1.elim
    | some p =>
      rw [h] at g1
      exact ⟨fr1, ms1, ρ, st1, x, p.1, p.2, w1, rv, h, fun fr2 H2 ms2 σ2 e2 w2 _ => g1 _ _ _ _ e2 w2⟩⟩
section
variable {X : Cx} {W : WX} {pos pos' : Pos} {e tg : Expr} {te : FE} {g : FG} {vs : List Nat}
theorem s_asg (he : DE X W e te) (hg : DG X vs tg g) (hs : swapsWithSole [tg] e pos.line X.env = pure false := by rfl) (hw : swappedStores [tg] e X.env = pure none := by rfl)
    (h1 : (assignEach [tg] X.env).map (·.2) = [assign tg X.env] := by rfl) : DS X W (.Assign [tg] e pos) (sAsg te g) := ps_imp (ps_asg he hg hs hw h1) fun _ _ _ => le_asg
def sSet (i : Nat) (te : FE) : FS := fun ρ st => (te ρ st).to ρ fun x st1 => .nx (ρ.set i (some x)) st1
theorem s_set (i : Nat) {x : Str} (hN : X.N.Nodup) (he : DE X W e te) (hi : X.N[i]? = some x := by rfl) (hx : Loc X.env.scope x := by first | exact Or.inl rfl | exact Or.inr rfl) (hs : swapsWith e (some (.Name x pos')) pos.line X.env = pure false := by rfl)
    (hf : X.fn x = true ∨ X.env.scope.names.lookup x = some .local := by first | exact .inl rfl | exact .inr rfl) : DS X W (.Assign [.Name x pos'] e pos) (sSet i te) := ps_imp (ps_set hN hi hx he hs hf) fun D σ H ⟨fr, ms, ρ, st, w, g⟩ =>
  ⟨fr, ms, ρ, st, w, (g.to w).mono fun x st1 fr1 H1 ms1 _ _ ⟨e1, s1, w1, g1⟩ v rv => g1.nx (w1.put rv i)⟩
end
/-- a, b = x, y with local names -/
def sPar (i j : Nat) (ta : FA) : FS := fun ρ st => (ta ρ st).to ρ fun xs st1 => match xs with
  | [x, y] => .nx ((ρ.set i (some x)).set j (some y)) st1
  | _ => .bad
theorem vrs2 {K : PySem.W.Frag} {fr : Addr → Prop} {H : Hp} {ms : List Addr} {vs : List V} {x y : Val} (h : VRs K fr H ms vs [x, y]) : ∃ v u, vs = [v, u] ∧ VR K fr H ms v x ∧ VR K fr H ms u y := by
  cases h with
  | cons a b =>
    cases b with
    | cons b c =>
      cases c
      exact ⟨_, _, rfl, a, b⟩
theorem vrs1 {K : PySem.W.Frag} {fr : Addr → Prop} {H : Hp} {ms : List Addr} {vs : List V} {x : Val} (h : VRs K fr H ms vs [x]) : ∃ v, vs = [v] ∧ VR K fr H ms v x := by
  cases h with
  | cons a b =>
    cases b
    exact ⟨_, rfl, a⟩
theorem le_par {K : PySem.W.Frag} {W : WX} {i j : Nat} {ta : FA} {D : Ends} {σ : L2.St} {H : Hp} : LS K W (sPar i j ta) D σ H → tPar i j (LA K W ta) D σ H := fun ⟨fr, ms, ρ, st, w, g⟩ =>
  ⟨fr, ms, ρ, st, w, (g.to w).mono fun xs st1 fr1 H1 ms1 _ _ ⟨e1, s1, w1, g1⟩ vs rs => by
    split at g1
    · obtain ⟨v, u, rfl, r1, r2⟩ := vrs2 rs
      exact ⟨_, _, rfl, g1.nx ((w1.put r1 i).put r2 j)⟩
    · exact g1.elim⟩
/-! ### names that are no more looked at -/
def wipeF (ρ : Env) : List Nat → Env
  | [] => ρ
  | v :: vs => (wipeF ρ vs).set v none
theorem Wd.forget {K : PySem.W.Frag} {fr : Addr → Prop} {H : Hp} {ms : List Addr} {σ : L2.St} {ρ : Env} {st : Store} (w : Wd K fr H ms σ ρ st) : ∀ vs : List Nat, Wd K fr H ms σ (wipeF ρ vs) st
  | [] => w
  | v :: vs => by
    have ih := w.forget vs
    refine ⟨by show ((wipeF ρ vs).set v none).length = _; rw [List.length_set, ih.len], fun i x h => ?_, w.sr⟩
    have h' : ((wipeF ρ vs).set v none)[i]? = some (some x) := h
    by_cases e : v = i
    · subst e
      by_cases hl : v < (wipeF ρ vs).length
      · rw [List.getElem?_set_self hl] at h'
        cases h'
      · rw [List.getElem?_eq_none (by rw [List.length_set]; omega)] at h'
        cases h'
    · rw [List.getElem?_set_ne e] at h'
      exact ih.env i x h'
def S.wiped (r : S) (vs : List Nat) : S := match r with
  | .nx ρ st => .nx (wipeF ρ vs) st
  | .bk ρ st => .bk (wipeF ρ vs) st
  | .ct ρ st => .ct (wipeF ρ vs) st
  | r => r
def sWipe (vs : List Nat) (t : FS) : FS := fun ρ st => (t ρ st).wiped vs
theorem GS.unwipe {K : PySem.W.Frag} {W : WX} {fr : Addr → Prop} {H : Hp} {ms : List Addr} {r : S} {vs : List Nat} {D : Ends} (g : GS K W fr H ms (r.wiped vs) D) : GS K W fr H ms r D := by
  cases r with
  | nx ρ st => exact fun fr' H' ms' σ' e' w => g _ _ _ _ e' (w.forget vs)
  | bk ρ st => exact fun fr' H' ms' σ' e' w => g _ _ _ _ e' (w.forget vs)
  | ct ρ st => exact fun fr' H' ms' σ' e' w => g _ _ _ _ e' (w.forget vs)
  | rt x st => exact g
  | ex x ρ st => exact g
  | bad => exact g
theorem ss_wipe {X : Cx} {W : WX} {s : List Stmt} {t : FS} (vs : List Nat) (h : DSs X W s t) : DSs X W s (sWipe vs t) := pss_imp h fun D σ H ⟨fr, ms, ρ, st, w, g⟩ => ⟨fr, ms, ρ, st, w, g.unwipe⟩
theorem s_wipe {X : Cx} {W : WX} {s : Stmt} {t : FS} (vs : List Nat) (h : DS X W s t) : DS X W s (sWipe vs t) := ps_imp h fun D σ H ⟨fr, ms, ρ, st, w, g⟩ => ⟨fr, ms, ρ, st, w, g.unwipe⟩
/-! ### while -/
def bigN : Nat := 1000000
/-- what a loop goes on with behind a turn -/
def S.turn (r : S) (f : Env → Store → S) : S := match r with
  | .nx ρ st => f ρ st
  | .ct ρ st => f ρ st
  | .bk ρ st => .nx ρ st
  | .rt x st => .rt x st
  | .ex x ρ st => .ex x ρ st
  | .bad => .bad
def wl (c : FT) (b : FS) : Nat → Env → Store → S
  | 0, _, _ => .bad
  | m + 1, ρ, st => (c ρ st).to ρ fun t st1 => bif t then (b ρ st1).turn (wl c b m) else .nx ρ st1
def sWhile (vz : List Nat) (c : FT) (b : FS) : FS := fun ρ st => wl c b bigN (wipeF ρ vz) st
theorem GS.turn {K : PySem.W.Frag} {W : WX} {fr : Addr → Prop} {H : Hp} {ms : List Addr} {r : S} {f : Env → Store → S} {D : Ends} (g : GS K W fr H ms (r.turn f) D) (N : L2.St → Hp → Prop)
    (hN : ∀ σ' H' fr' ms' ρ' st', Ext ms.length fr H ms fr' H' ms' → Wd K fr' H' ms' σ' ρ' st' → GS K W fr' H' ms' (f ρ' st') D → N σ' H') : GS K W fr H ms r { D with nx := N, ct := N, bk := D.nx } := by
  cases r with
  | nx ρ st => exact fun fr' H' ms' σ' e' w => hN _ _ _ _ _ _ e' w (GS.at g e')
  | rt x st => exact g
  | bk ρ st => exact fun fr' H' ms' σ' e' w => g _ _ _ _ e' w
  | ct ρ st => exact fun fr' H' ms' σ' e' w => hN _ _ _ _ _ _ e' w (GS.at g e')
  | ex x ρ st => exact g
  | bad => exact g
theorem s_while (vz : List Nat) {X : Cx} {W : WX} {c : Expr} {body : List Stmt} {tc : FT} {tb : FS} {pos : Pos} (hp : PassesOwn (model X.prog X.w) X.A X.env X.xe) (hc : DT X W c tc) (hb : DSs X W body tb) : DS X W (.While c body [] pos) (sWhile vz tc tb) :=
  ps_imp (ps_while hp hc hb) fun D σ H ⟨fr, ms, ρ, st, w, g⟩ => by
    refine ⟨fun m σ' H' => ∃ fr' ms' ρ' st', Wd X.K fr' H' ms' σ' ρ' st' ∧ GS X.K W fr' H' ms' (wl tc tb m ρ' st') D, ⟨bigN, fr, ms, _, st, w.forget vz, g⟩, fun m σ' H' ⟨fr1, ms1, ρ1, st1, w1, g1⟩ => ?_⟩
    cases m with
    | zero => exact g1.elim
    | succ m =>
      refine ⟨fr1, ms1, ρ1, st1, w1, (g1.to w1).mono fun b st2 fr2 H2 ms2 _ _ ⟨e2, s2, w2, g2⟩ => ?_⟩
      dsimp only [PT']
      cases b with
      | true =>
        rw [if_pos rfl]
        refine ⟨fun σ3 H3 => ∃ m', m' < m + 1 ∧ ∃ fr' ms' ρ' st', Wd X.K fr' H3 ms' σ3 ρ' st' ∧ GS X.K W fr' H3 ms' (wl tc tb m' ρ' st') D, fun σ3 H3 ⟨m', hm, z⟩ => ⟨m', hm, z⟩, ?_⟩
        exact ⟨fr2, ms2, ρ1, st2, w2, GS.turn g2 _ fun σ' H' fr' ms' ρ' st' e' w' g' => ⟨m, Nat.lt_succ_self m, fr', ms', ρ', st', w', g'⟩⟩
      | false =>
        rw [if_neg Bool.false_ne_true]
        exact g2.nx w2
/-! ### what is walked -/
/-- the items that a walked thing has, by the store -/
abbrev Its := Store → Option (List Val)
abbrev FI := Env → Store → R Its
/-- an iterator J whose turns are the items, as long as they are so -/
def ItOk (K : PySem.W.Frag) (fr0 : Addr → Prop) (H0 : Hp) (ms0 : List Addr) (J : It) (cur : Its) : Prop := ∀ i fr H ms st xs, Ext ms0.length fr0 H0 ms0 fr H ms → SR K fr H ms st → cur st = some xs →
  (∀ x, xs[i]? = some x → J.go i H ∧ ∀ v H', J.yld i H v H' → ∃ fr', Ext ms.length fr H ms fr' H' ms ∧ SR K fr' H' ms st ∧ VR K fr' H' ms v x) ∧ (xs.length ≤ i → J.stop i H)
def LI (K : PySem.W.Frag) (W : WX) (t : FI) : TI := fun σ H Q => ∃ fr ms ρ st, Wd K fr H ms σ ρ st ∧ G K W σ fr H ms (t ρ st) (fun cur fr' H' ms' _ => ∀ J, ItOk K fr' H' ms' J cur → Q J H')
abbrev DI (X : Cx) (W : WX) (tg e : Expr) (t : FI) : Prop := PI X tg e (LI X.K W t)
theorem pi_imp {X : Cx} {tg e : Expr} {t t' : TI} (h : PI X tg e t) (i : ∀ σ H Q, t' σ H Q → t σ H Q) : PI X tg e t' := ⟨fun pins s σ H R I q => h.run pins s σ H R I (i _ _ _ q)⟩
/-- a for, item by item -/
def fl (cur : Its) (g : FG) (b : FS) : Nat → Nat → Env → Store → S
  | 0, _, _, _ => .bad
  | m + 1, i, ρ, st => match cur st with
    | none => .bad
    | some xs => match xs[i]? with
      | none => .nx ρ st
      | some x => match g x ρ st with
        | none => .bad
        | some (ρ1, st1) => (b ρ1 st1).turn (fl cur g b m (i + 1))
def sFor (vz : List Nat) (wi : FI) (g : FG) (b : FS) : FS := fun ρ st => (wi ρ st).to ρ fun cur st1 => fl cur g b bigN 0 (wipeF ρ vz) st1
theorem s_for (vz : List Nat) {X : Cx} {W : WX} {tg iter : Expr} {body : List Stmt} {wi : FI} {g : FG} {tb : FS} {vs : List Nat} {pos : Pos} (hp : PassesOwn (model X.prog X.w) X.A X.env X.xe) (hc : X.calm = true) (hi : DI X W tg iter wi) (hg : DG X vs tg g) (hb : DSs X W body tb)
    (hs : ∀ x, foldedSetIterable iter X.env x = pure x := by intro _; rfl) : DS X W (.For tg iter body [] pos) (sFor vz wi g tb) :=
  ps_imp (ps_for hp hc hi hg hb hs) fun D σ H ⟨fr, ms, ρ, st, w, g0⟩ => by
    refine ⟨fr, ms, ρ, st, w, (g0.to w).mono fun cur st1 fr1 H1 ms1 _ _ ⟨e1, s1, w1, g1⟩ J ok => ?_⟩
    refine ⟨fun i m σ' H' => ∃ fr' ms' ρ' st', Ext ms1.length fr1 H1 ms1 fr' H' ms' ∧ Wd X.K fr' H' ms' σ' ρ' st' ∧ GS X.K W fr' H' ms' (fl cur g tb m i ρ' st') D, ⟨bigN, fr1, ms1, _, st1, Ext.refl _ _ _ _, w1.forget vz, g1⟩, fun i m σ2 H2 hw => ?_⟩
    obtain ⟨fr2, ms2, ρ2, st2, e2, w2, g2⟩ := hw
    cases m with
    | zero => exact g2.elim
    | succ m =>
      unfold fl at g2
      cases hx : cur st2 with
      | none =>
        rw [hx] at g2
        exact g2.elim
      | some xs =>
        rw [hx] at g2
        dsimp only at g2
        cases hi : xs[i]? with
        | none =>
          rw [hi] at g2
          exact .inl ⟨(ok i fr2 H2 ms2 st2 xs e2 w2.sr hx).2 (List.getElem?_eq_none_iff.mp hi), g2.nx w2⟩
        | some x =>
          rw [hi] at g2
          dsimp only at g2
          cases hg2 : g x ρ2 st2 with
          | none =>
            rw [hg2] at g2
            exact g2.elim
          | some p =>
            rw [hg2] at g2
            dsimp only at g2
            obtain ⟨go, hy⟩ := (ok i fr2 H2 ms2 st2 xs e2 w2.sr hx).1 _ hi
            refine .inr ⟨go, fun σ3 H3 => ∃ m', m' < m + 1 ∧ ∃ fr' ms' ρ' st', Ext ms1.length fr1 H1 ms1 fr' H3 ms' ∧ Wd X.K fr' H3 ms' σ3 ρ' st' ∧ GS X.K W fr' H3 ms' (fl cur g tb m' (i + 1) ρ' st') D, fun σ3 H3 z => z, fun v H3 y3 => ?_⟩
            obtain ⟨fr3, e3, s3, r3⟩ := hy v H3 y3
            refine ⟨fr3, ms2, ρ2, st2, x, p.1, p.2, w2.on e3 s3, r3, hg2, fun fr4 H4 ms4 σ4 e4 w4 _ => ?_⟩
            have e24 := e3.then e4
            refine ⟨fr4, ms4, p.1, p.2, w4, GS.turn (GS.at g2 e24) _ fun σ' H' fr' ms' ρ' st' e' w' g' => ?_⟩
            exact ⟨m, Nat.lt_succ_self m, fr', ms', ρ', st', (e2.then e24).then e', w', g'⟩
/-! ### comprehensions -/
theorem wipe_twice (σ : L2.St) (vs : List Nat) : wipe (wipe σ vs) vs = wipe σ vs := by
  have h : ∀ ws : List Nat, (∀ v ∈ ws, v ∈ vs) → wipe (wipe σ ws) vs = wipe σ vs := by
    intro ws
    induction ws with
    | nil => intro _; rfl
    | cons a r ih =>
      intro hs
      show wipe ((wipe σ r).set a none) vs = wipe σ vs
      rw [wipe_mem (hs a List.mem_cons_self)]
      exact ih fun v hv => hs v (List.mem_cons_of_mem _ hv)
  exact h vs fun _ z => z
theorem Wd.wipe {K : PySem.W.Frag} {fr : Addr → Prop} {H : Hp} {ms : List Addr} {σ : L2.St} {ρ : Env} {st : Store} (w : Wd K fr H ms σ ρ st) : ∀ vs : List Nat, Wd K fr H ms (wipe σ vs) (wipeF ρ vs) st
  | [] => w
  | v :: vs => by
    have ih := w.wipe vs
    refine ⟨by show ((wipeF ρ vs).set v none).length = ((L2.wipe σ vs).set v none).length; rw [List.length_set, List.length_set, ih.len], fun i x h => ?_, w.sr⟩
    have h' : ((wipeF ρ vs).set v none)[i]? = some (some x) := h
    by_cases e : v = i
    · subst e
      by_cases hl : v < (wipeF ρ vs).length
      · rw [List.getElem?_set_self hl] at h'
        cases h'
      · rw [List.getElem?_eq_none (by rw [List.length_set]; omega)] at h'
        cases h'
    · rw [List.getElem?_set_ne e] at h'
      obtain ⟨u, hu, r⟩ := ih.env i x h'
      exact ⟨u, by show ((L2.wipe σ vs).set v none)[i]? = some (some u); rw [List.getElem?_set_ne e]; exact hu, r⟩
def tYes : FT := fun _ st => .ok true st
abbrev DTs (X : Cx) (W : WX) (e : List Expr) (t : FT) : Prop := PTs X e (LT X.K W t)
theorem ts_nil {X : Cx} {W : WX} : DTs X W [] tYes := ⟨fun pins s σ H Q I ⟨fr, ms, ρ, st, w, g⟩ => pts_nil.run pins s σ H Q I (g.now w.sr)⟩
theorem ts_one {X : Cx} {W : WX} {c : Expr} {t : FT} (h : DT X W c t) : DTs X W [c] t := pts_one h
/-- an item of a comprehension: made, or left out; nothing is raised -/
def lc1 (g : FG) (tt : FT) (te : FE) (x : Val) (ρ : Env) (st : Store) : Option (Option Val × Store) := match g x ρ st with
  | none => none
  | some (ρ1, st1) => match tt ρ1 st1 with
    | .ok true st2 => (match te ρ1 st2 with
      | .ok y st3 => some (some y, st3)
      | _ => none)
    | .ok false st2 => some (none, st2)
    | _ => none
def lcl (cur : Its) (g : FG) (tt : FT) (te : FE) (ρ : Env) : Nat → Nat → List Val → Store → Option (List Val × Store)
  | 0, _, _, _ => none
  | m + 1, i, acc, st => match cur st with
    | none => none
    | some xs => match xs[i]? with
      | none => some (acc, st)
      | some x => match lc1 g tt te x ρ st with
        | none => none
        | some (none, st1) => lcl cur g tt te ρ m (i + 1) acc st1
        | some (some y, st1) => bif Nat.blt acc.length sizeLine then lcl cur g tt te ρ m (i + 1) (acc ++ [y]) st1 else none
def eLc (c : Bool) (wi : FI) (g : FG) (tt : FT) (te : FE) (vs : List Nat) : FE := fun ρ st => (wi ρ st).bind fun cur st1 => match lcl cur g tt te (wipeF ρ vs) bigN 0 [] st1 with
  | some (xs, st2) => .ok (newL c xs st2).1 (newL c xs st2).2
  | none => .bad
abbrev noW : WX := fun _ _ _ _ => False
/-! ### an object that is made ahead, beside all else, and told of late -/
section
variable {K : PySem.W.Frag} {fr fr1 fr2 : Addr → Prop} {H H1 H2 : Hp} {ms ms1 ms2 : List Addr} {st : Store} {D : Addr} {o : HO}
/-- what may be made ahead -/
def late : HO → Prop
  | .lst _ => True
  | .dK _ => True
  | .dT _ => True
  | _ => False
theorem late.nt {o : HO} (h : late o) : notbl o := by cases o <;> first | trivial | exact h.elim
section
variable {u : HO} (hD : H D = some u) (hu : late u) (nf : ¬ fr D) (np : D ∉ ms)
include hD hu
theorem off_ne {a : Addr} {v : HO} (h : H a = some v) (hv : ¬ late v) : a ≠ D := fun z => by
  rw [z, hD] at h
  cases h
  exact hv hu
theorem off_sqt {a : Addr} {xs : List V} (h : SqT K H a xs) : SqT K (L2.upd H D o) a xs := by
  rcases h with (h | ⟨p, h⟩) | h
  · exact .inl (.inl ((upd_ne (off_ne hD hu h fun z => z)).trans h))
  · exact .inl (.inr ⟨p, (upd_ne (off_ne hD hu h fun z => z)).trans h⟩)
  · exact .inr h
include nf
mutual
theorem VR.off' : ∀ {v : V} {x : Val}, VR K fr H ms v x → VR K fr (L2.upd H D o) ms v x
  | _, _, .non => .non
  | _, _, .bl b => .bl b
  | _, _, .int i => .int i
  | _, _, .str x => .str x
  | _, _, .tup h r => .tup (off_sqt hD hu h) (VRs.off' r)
  | _, _, .ro (a := a) h f r => .ro ((upd_ne fun z : a = D => nf (by rw [← z]; exact f)).trans h) f (VRs.off' r)
  | _, _, .wr (.inl ⟨p, h⟩) r => .wr (.inl ⟨p, (upd_ne (off_ne hD hu h fun z => z)).trans h⟩) (VRs.off' r)
  | _, _, .wr (.inr h) r => .wr (.inr h) (VRs.off' r)
  | _, _, .rd (a := a) h l f r => .rd ((upd_ne fun z : a = D => nf (by rw [← z]; exact f)).trans h) l f (VRs.off' r)
  | _, _, .ref h => .ref h
  | _, _, .ty n => .ty n
  | _, _, .gl a => .gl a
  | _, _, .ex0 h => .ex0 ((upd_ne (off_ne hD hu h fun z => z)).trans h)
  | _, _, .ex1 h d r => .ex1 ((upd_ne (off_ne hD hu h fun z => z)).trans h) ((upd_ne (off_ne hD hu d fun z => z)).trans d) (VR.off' r)
theorem VRs.off' : ∀ {v : List V} {x : List Val}, VRs K fr H ms v x → VRs K fr (L2.upd H D o) ms v x
  | _, _, .nil => .nil
  | _, _, .cons a b => .cons (VR.off' a) (VRs.off' b)
end
theorem VRk.off' {κ : Type} : ∀ {vs : List (κ × V)} {xs : List (κ × Val)}, VRk K fr H ms vs xs → VRk K fr (L2.upd H D o) ms vs xs
  | _, _, .nil => .nil
  | _, _, .cons a b => .cons (VR.off' hD hu nf a) (VRk.off' b)
include np
theorem SR.off' (s : SR K fr H ms st) : SR K fr (L2.upd H D o) ms st := by
  refine ⟨s.len, s.nd, fun i a c hm hc => ?_, s.nfr, fun a h => upd_there (s.low a h)⟩
  have ne : a ≠ D := fun z => np (z ▸ List.mem_of_getElem? hm)
  have q := s.cell i a c hm hc
  cases c with
  | lst xs => exact let ⟨ws, e, r⟩ := q; ⟨ws, (upd_ne ne).trans e, VRs.off' hD hu nf r⟩
  | dic xs => exact let ⟨ws, e, r⟩ := q; ⟨ws, (upd_ne ne).trans e, VRk.off' hD hu nf r⟩
  | dit xs => exact let ⟨ws, e, r⟩ := q; ⟨ws, (upd_ne ne).trans e, VRk.off' hD hu nf r⟩
  | ins C fs => exact let ⟨dx, ws, e, d, r⟩ := q; ⟨dx, ws, (upd_ne ne).trans e, (upd_ne (off_ne hD hu d fun z => z)).trans d, VRk.off' hD hu nf r⟩
theorem Wd.off' {σ : L2.St} {ρ : Env} (w : Wd K fr H ms σ ρ st) : Wd K fr (L2.upd H D o) ms σ ρ st :=
  ⟨w.len, fun i x h => let ⟨v, a, b⟩ := w.env i x h; ⟨v, a, VR.off' hD hu nf b⟩, SR.off' hD hu nf np w.sr⟩
end
theorem Ext.beside (e : Ext ms1.length fr1 H1 ms1 fr H ms) (n : H1 D = none) : Ext ms1.length fr1 H1 ms1 fr (L2.upd H D o) ms :=
  ⟨e.pre, fun a u h s t => (upd_ne fun z => by rw [z, n] at h; cases h).trans (e.keep a u h s t), fun a h => upd_there (e.there a h), e.tk, e.frk, e.frn⟩
/-- what is beside stays so -/
theorem Ext.aside {st : Store} (e : Ext ms.length fr H ms fr2 H2 ms2) (s : SR K fr H ms st) (hD : H D = some o) (ho : late o) (nf : ¬ fr D) (np : D ∉ ms) : H2 D = some o ∧ D ∉ ms2 ∧ ¬ fr2 D := by
  refine ⟨e.keep D o hD np ho.nt, fun z => ?_, fun z => ?_⟩
  · rcases e.tk D z with q | q
    · exact np q
    · rw [hD] at q
      cases q
  · rcases e.frn D z with q | q | q
    · exact nf q
    · rw [hD] at q
      cases q
    · exact np q
mutual
/-- more cells -/
theorem VR.more : ∀ {v : V} {x : Val}, VR K fr H ms v x → VR K fr H (ms ++ [D]) v x
  | _, _, .non => .non
  | _, _, .bl b => .bl b
  | _, _, .int i => .int i
  | _, _, .str x => .str x
  | _, _, .tup h r => .tup h (VRs.more r)
  | _, _, .ro h f r => .ro h f (VRs.more r)
  | _, _, .wr h r => .wr h (VRs.more r)
  | _, _, .rd h l f r => .rd h l f (VRs.more r)
  | _, _, .ref h => .ref (by rw [List.getElem?_append_left (List.getElem?_eq_some_iff.mp h).1]; exact h)
  | _, _, .ty n => .ty n
  | _, _, .gl a => .gl a
  | _, _, .ex0 h => .ex0 h
  | _, _, .ex1 h d r => .ex1 h d (VR.more r)
theorem VRs.more : ∀ {v : List V} {x : List Val}, VRs K fr H ms v x → VRs K fr H (ms ++ [D]) v x
  | _, _, .nil => .nil
  | _, _, .cons a b => .cons (VR.more a) (VRs.more b)
end
theorem VRk.more {κ : Type} : ∀ {vs : List (κ × V)} {xs : List (κ × Val)}, VRk K fr H ms vs xs → VRk K fr H (ms ++ [D]) vs xs
  | _, _, .nil => .nil
  | _, _, .cons a b => .cons a.more (VRk.more b)
theorem CR.more {p : Addr} : ∀ {c : Cell}, CR K fr H ms p c → CR K fr H (ms ++ [D]) p c
  | .lst _, ⟨ws, a, b⟩ => ⟨ws, a, b.more⟩
  | .dic _, ⟨ws, a, b⟩ => ⟨ws, a, b.more⟩
  | .dit _, ⟨ws, a, b⟩ => ⟨ws, a, b.more⟩
  | .ins _ _, ⟨dx, ws, a, d, b⟩ => ⟨dx, ws, a, d, b.more⟩
mutual
/-- more is frozen -/
theorem VR.frz {P : Addr → Prop} : ∀ {v : V} {x : Val}, VR K fr H ms v x → VR K (fun b => fr b ∨ P b) H ms v x
  | _, _, .non => .non
  | _, _, .bl b => .bl b
  | _, _, .int i => .int i
  | _, _, .str x => .str x
  | _, _, .tup h r => .tup h (VRs.frz r)
  | _, _, .ro h f r => .ro h (.inl f) (VRs.frz r)
  | _, _, .wr h r => .wr h (VRs.frz r)
  | _, _, .rd h l f r => .rd h l (.inl f) (VRs.frz r)
  | _, _, .ref h => .ref h
  | _, _, .ty n => .ty n
  | _, _, .gl a => .gl a
  | _, _, .ex0 h => .ex0 h
  | _, _, .ex1 h d r => .ex1 h d (VR.frz r)
theorem VRs.frz {P : Addr → Prop} : ∀ {v : List V} {x : List Val}, VRs K fr H ms v x → VRs K (fun b => fr b ∨ P b) H ms v x
  | _, _, .nil => .nil
  | _, _, .cons a b => .cons (VR.frz a) (VRs.frz b)
end
theorem VRk.frz {κ : Type} {P : Addr → Prop} : ∀ {vs : List (κ × V)} {xs : List (κ × Val)}, VRk K fr H ms vs xs → VRk K (fun b => fr b ∨ P b) H ms vs xs
  | _, _, .nil => .nil
  | _, _, .cons a b => .cons a.frz (VRk.frz b)
theorem CR.frz {P : Addr → Prop} {p : Addr} : ∀ {c : Cell}, CR K fr H ms p c → CR K (fun b => fr b ∨ P b) H ms p c
  | .lst _, ⟨ws, a, b⟩ => ⟨ws, a, b.frz⟩
  | .dic _, ⟨ws, a, b⟩ => ⟨ws, a, b.frz⟩
  | .dit _, ⟨ws, a, b⟩ => ⟨ws, a, b.frz⟩
  | .ins _ _, ⟨dx, ws, a, d, b⟩ => ⟨dx, ws, a, d, b.frz⟩
theorem SR.frz (s : SR K fr H ms st) (hD : H D = some o) (np : D ∉ ms) : SR K (fun b => fr b ∨ b = D) H ms st :=
  ⟨s.len, s.nd, fun i a c hm hc => (s.cell i a c hm hc).frz, fun a h => fun z => z.elim (s.nfr a h) fun z => np (z ▸ h), fun a h => h.elim (s.low a) fun z => by rw [z, hD]; simp⟩
/-- it becomes a cell -/
theorem SR.adopt {c : Cell} (s : SR K fr H ms st) (nf : ¬ fr D) (np : D ∉ ms) (r : CR K fr H (ms ++ [D]) D c) : SR K fr H (ms ++ [D]) (st ++ [c]) := by
  refine ⟨by rw [List.length_append, List.length_append, s.len]; rfl, ?_, fun i b d hb hd => ?_, fun b hb => ?_, s.low⟩
  · rw [List.nodup_append]
    exact ⟨s.nd, by simp, fun x hx y hy => by rw [List.mem_singleton.mp hy]; exact fun z => np (z ▸ hx)⟩
  · rcases getElem?_snoc hb with q | ⟨e1, rfl⟩
    · have hi := (List.getElem?_eq_some_iff.mp q).1
      rw [List.getElem?_append_left (by rw [← s.len]; exact hi)] at hd
      exact (s.cell i b d q hd).more
    · rw [e1, s.len, List.getElem?_append_right (Nat.le_refl _), Nat.sub_self] at hd
      cases hd
      exact r
  · rcases List.mem_append.mp hb with hb | hb
    · exact s.nfr b hb
    · rw [List.mem_singleton.mp hb]
      exact nf
/-- a list that was made ahead is told of: a cell, or frozen; seen from where it was made -/
theorem QV.late {c : Bool} {xs : List Val} {Q : VK} {vs : List V} (q : QV K fr1 H1 ms1 (newL c xs st).1 (newL c xs st).2 Q) (e : Ext ms1.length fr1 H1 ms1 fr H ms) (n : H1 D = none) (s : SR K fr H ms st) (r : VRs K fr H ms vs xs)
    (hD : H D = some (.lst vs)) (np : D ∉ ms) (nf : ¬ fr D) : Q (.ref D) H := by
  cases c with
  | true =>
    have ea : Ext ms1.length fr1 H1 ms1 fr H (ms ++ [D]) := ⟨by rw [List.take_append_of_le_length e.len]; exact e.pre, e.keep, e.there, fun a ha => by
      rcases List.mem_append.mp ha with ha | ha
      · exact e.tk a ha
      · rw [List.mem_singleton.mp ha]
        exact .inr n, e.frk, e.frn⟩
    refine q _ _ (ms ++ [D]) _ ea (s.adopt nf np ⟨vs, hD, r.more⟩) (.ref ?_)
    rw [List.getElem?_append_right (by rw [s.len]; exact Nat.le_refl _), s.len, Nat.sub_self]
    rfl
  | false =>
    exact q _ _ ms _ ⟨e.pre, e.keep, e.there, e.tk, fun a h => .inl (e.frk a h), fun a h => h.elim (e.frn a) fun z => .inr (.inl (z ▸ n))⟩ (s.frz hD np) (.ro hD (.inr rfl) (VRs.frz r))
end
theorem le_lc {K : PySem.W.Frag} {W : WX} {c : Bool} {wi : FI} {g : FG} {tt : FT} {te : FE} {vs : List Nat} {σ : L2.St} {H : Hp} {Q : VK} : LE K W (eLc c wi g tt te vs) σ H Q → tLc (LI K W wi) (LG K vs g) (LT K noW tt) (LE K noW te) vs σ H Q := by
  rintro ⟨fr, ms, ρ, st, w, g0⟩
  refine ⟨fr, ms, ρ, st, w, g0.bind.mono fun cur st1 fr1 H1 ms1 _ _ ⟨e1, s1, g1⟩ J ok D nD => ?_⟩
  cases hl : lcl cur g tt te (wipeF ρ vs) bigN 0 [] st1 with
  | none =>
    rw [hl] at g1
    exact g1.elim
  | some pr =>
    obtain ⟨res, st9⟩ := pr
    rw [hl] at g1
    have q9 := QV.of g1
    have w1 := w.on e1 s1
    have nb1 : D ∉ ms1 := s1.no nD
    have nf1 : ¬ fr1 D := fun z => s1.low D z nD
    have hup : L2.upd H1 D (.lst []) D = some (.lst []) := upd_same
    refine ⟨fun i m H' => ∃ fr' ms' st' acc ws, Ext ms1.length fr1 H1 ms1 fr' H' ms' ∧ SR K fr' H' ms' st' ∧ Wd K fr' H' ms' σ ρ st' ∧ H' D = some (.lst ws) ∧ VRs K fr' H' ms' ws acc ∧ D ∉ ms' ∧ ¬ fr' D ∧ lcl cur g tt te (wipeF ρ vs) m i acc st' = some (res, st9), ⟨bigN, fr1, ms1, st1, [], [], Ext.new _ nD, s1.new nD, w1.on (Ext.new _ nD) (s1.new nD), hup, .nil, nb1, nf1, hl⟩, fun i m H2 hw => ?_⟩
    obtain ⟨fr2, ms2, st2, acc, ws, e2, s2, w2, hD, ra, np, nf, hl2⟩ := hw
    cases m with
    | zero => cases hl2
    | succ m =>
      unfold lcl at hl2
      cases hx : cur st2 with
      | none =>
        rw [hx] at hl2
        cases hl2
      | some xs =>
        rw [hx] at hl2
        dsimp only at hl2
        cases hi : xs[i]? with
        | none =>
          rw [hi] at hl2
          have stop := (ok i fr2 H2 ms2 st2 xs e2 s2 hx).2 (List.getElem?_eq_none_iff.mp hi)
          cases hl2
          exact .inl ⟨stop, QV.late q9 e2 nD s2 ra hD np nf⟩
        | some x =>
          rw [hi] at hl2
          dsimp only at hl2
          obtain ⟨go, hy⟩ := (ok i fr2 H2 ms2 st2 xs e2 s2 hx).1 _ hi
          refine .inr ⟨go, fun H' => ∃ fr' ms' st' acc ws, Ext ms1.length fr1 H1 ms1 fr' H' ms' ∧ SR K fr' H' ms' st' ∧ Wd K fr' H' ms' σ ρ st' ∧ H' D = some (.lst ws) ∧ VRs K fr' H' ms' ws acc ∧ D ∉ ms' ∧ ¬ fr' D ∧ lcl cur g tt te (wipeF ρ vs) m (i + 1) acc st' = some (res, st9), fun H' z => ⟨m, Nat.lt_succ_self m, z⟩, fun v H3 y3 => ?_⟩
          obtain ⟨fr3, e3, s3, r3⟩ := hy v H3 y3
          obtain ⟨hD3, np3, nf3⟩ := e3.aside s2 hD trivial nf np
          have ra3 := ra.ex s2 e3
          have e13 := e2.then e3
          have w3 := w2.on e3 s3
          unfold lc1 at hl2
          cases hg : g x (wipeF ρ vs) st2 with
          | none =>
            rw [hg] at hl2
            cases hl2
          | some p =>
            obtain ⟨ρ4, st4⟩ := p
            rw [hg] at hl2
            dsimp only at hl2
            refine ⟨fr3, ms2, wipeF ρ vs, st2, x, ρ4, st4, w3.wipe vs, r3, hg, fun fr4 H4 ms4 σ4 e4 w4 c4 => ⟨c4.trans (wipe_twice σ vs), ?_⟩⟩
            refine ⟨fr4, ms4, ρ4, st4, w4, ?_⟩
            cases ht : tt ρ4 st4 with
            | bad =>
              rw [ht] at hl2
              cases hl2
            | exc z zs =>
              rw [ht] at hl2
              cases hl2
            | ok b st5 =>
              rw [ht] at hl2
              intro fr5 H5 ms5 e5 s5
              have e35 := e3.then (e4.then e5)
              obtain ⟨hD5, np5, nf5⟩ := e35.aside s2 hD trivial nf np
              have ra5 := ra.ex s2 e35
              have w5 := w4.on e5 s5
              dsimp only [PT']
              cases b with
              | false =>
                dsimp only at hl2
                rw [if_neg Bool.false_ne_true]
                exact ⟨fr5, ms5, st5, acc, ws, e2.then e35, s5, w2.on e35 s5, hD5, ra5, np5, nf5, hl2⟩
              | true =>
                dsimp only at hl2
                rw [if_pos rfl]
                refine ⟨fr5, ms5, ρ4, st5, w5, ?_⟩
                cases hte : te ρ4 st5 with
                | bad =>
                  rw [hte] at hl2
                  cases hl2
                | exc z zs =>
                  rw [hte] at hl2
                  cases hl2
                | ok y st6 =>
                  rw [hte] at hl2
                  dsimp only at hl2
                  intro fr6 H6 ms6 e6 s6 v6 r6
                  have e36 := e35.then e6
                  obtain ⟨hD6, np6, nf6⟩ := e36.aside s2 hD trivial nf np
                  have ra6 := ra.ex s2 e36
                  cases hb : Nat.blt acc.length sizeLine with
                  | false =>
                    rw [hb] at hl2
                    cases hl2
                  | true =>
                    rw [hb] at hl2
                    have hlt : acc.length < sizeLine := Nat.le_of_ble_eq_true hb
                    have up6 : L2.upd H6 D (.lst (ws ++ [v6])) D = some (.lst (ws ++ [v6])) := upd_same
                    refine ⟨ws, hD6, by rw [ra6.length]; exact hlt, fr6, ms6, st6, acc ++ [y], ws ++ [v6], (e2.then e36).beside nD, SR.off' hD6 trivial nf6 np6 s6, Wd.off' hD6 trivial nf6 np6 (w2.on e36 s6), up6, ?_, np6, nf6, hl2⟩
                    exact VRs.off' hD6 trivial nf6 (ra6.app (.cons r6 .nil))
section
variable {X : Cx} {W : WX} {elt tg iter : Expr} {ifs : List Expr} {scope : Scope} {pos : Pos} {wi : FI} {g : FG} {tt : FT} {te : FE}
theorem d_lc (c : Bool) (own : List (Str × Nat)) (hc : X.calm = true) (hN : X.N.Nodup) (hi : DI X W tg iter wi) (ok : BlkOk X.N X.env.scope scope own)
    (hg : ∀ (s : Shared) (H : Hp) (C : Addr) (cl : List (Str × Addr)) (fp : List Addr), DG (X.blk s H scope (compEnvC scope cl C X.env) fp) (own.map (·.2)) tg g) (ht : ∀ (s : Shared) (H : Hp) (C : Addr) (cl : List (Str × Addr)) (fp : List Addr), DTs (X.blk s H scope (compEnvC scope cl C X.env) fp) noW ifs tt)
    (he : ∀ (s : Shared) (H : Hp) (C : Addr) (cl : List (Str × Addr)) (fp : List Addr), DE (X.blk s H scope (compEnvC scope cl C X.env) fp) noW elt te) (hs : ∀ x, foldedSetIterable iter X.env x = pure x := by intro _; rfl) :
    DE X W (.ListComp elt [⟨tg, iter, ifs, 0⟩] scope pos) (eLc c wi g tt te (own.map (·.2))) := pe_imp (pe_lc hc hN hi ok hg ht he hs) fun _ _ _ => le_lc
theorem le_setLc {K : PySem.W.Frag} {c : Bool} {vs : List Nat} {i : Nat} {D : Ends} {σ : L2.St} {H : Hp} : LS K W (sSet i (eLc c wi g tt te vs)) D σ H → tAsg (tLc (LI K W wi) (LG K vs g) (LT K noW tt) (LE K noW te) vs) (gName i) D σ H := fun ⟨fr, ms, ρ, st, w, g0⟩ =>
  le_lc ⟨fr, ms, ρ, st, w, (g0.to w).mono fun x st1 fr1 H1 ms1 _ _ ⟨e1, s1, w1, g1⟩ v rv => g1.nx (w1.put rv i)⟩
end
end FL
namespace FL
open PySem PySem.Spec PyProof.Rows L2
/-! ### what is walked -/
def lstAt (st : Store) (p : Nat) : Option (List Val) := match st[p]? with
  | some (.lst xs) => some xs
  | _ => none
def dicAt (st : Store) (p : Nat) : Option (List (Key × Val)) := match st[p]? with
  | some (.dic es) => some es
  | _ => none
def ditAt (st : Store) (p : Nat) : Option (List (List Key × Val)) := match st[p]? with
  | some (.dit es) => some es
  | _ => none
/-- a list's or tuple's items -/
def seqOf (st : Store) : Val → Option (List Val)
  | .tup xs => some xs
  | .ro xs => some xs
  | .wr xs => some xs
  | .ref p => lstAt st p
  | _ => none
/-- a list's items -/
def lstOf (st : Store) : Val → Option (List Val)
  | .ro xs => some xs
  | .wr xs => some xs
  | .ref p => lstAt st p
  | _ => none
/-- .. of one that stands by itself -/
def plOf (st : Store) : Val → Option (List Val)
  | .ro xs => some xs
  | .ref p => lstAt st p
  | _ => none
section
variable {K : PySem.W.Frag} {fr : Addr → Prop} {H : Hp} {ms : List Addr} {st : Store}
theorem lstAt_eq {p : Nat} {xs : List Val} (h : lstAt st p = some xs) : st[p]? = some (.lst xs) := by
  unfold lstAt at h
  split at h
  · next q =>
    cases h
    exact q
  · cases h
theorem dicAt_eq {p : Nat} {xs : List (Key × Val)} (h : dicAt st p = some xs) : st[p]? = some (.dic xs) := by
  unfold dicAt at h
  split at h
  · next q =>
    cases h
    exact q
  · cases h
theorem ditAt_eq {p : Nat} {xs : List (List Key × Val)} (h : ditAt st p = some xs) : st[p]? = some (.dit xs) := by
  unfold ditAt at h
  split at h
  · next q =>
    cases h
    exact q
  · cases h
theorem vr_ref {v : V} {p : Nat} (h : VR K fr H ms v (.ref p)) : ∃ a, v = .ref a ∧ ms[p]? = some a := by
  cases h with
  | ref h => exact ⟨_, rfl, h⟩
theorem vr_ro {v : V} {xs : List Val} (h : VR K fr H ms v (.ro xs)) : ∃ a ws, v = .ref a ∧ H a = some (.lst ws) ∧ VRs K fr H ms ws xs := by
  cases h with
  | ro h f r => exact ⟨_, _, rfl, h, r⟩
theorem vr_wr {v : V} {xs : List Val} (h : VR K fr H ms v (.wr xs)) : ∃ a ws, v = .ref a ∧ RoA K H a ws ∧ VRs K fr H ms ws xs := by
  cases h with
  | wr h r => exact ⟨_, _, rfl, h, r⟩
theorem RoA.sql {a : Addr} {ws : List V} (h : RoA K H a ws) : SqL K H a ws := by
  rcases h with ⟨o, h⟩ | h
  · exact .inl (.inr ⟨o, h⟩)
  · exact .inr h
theorem pl_at {x : Val} {v : V} {xs : List Val} (s : SR K fr H ms st) (r : VR K fr H ms v x) (h : plOf st x = some xs) : ∃ a ws, v = .ref a ∧ H a = some (.lst ws) ∧ VRs K fr H ms ws xs := by
  unfold plOf at h
  split at h
  · cases h
    exact vr_ro r
  · obtain ⟨a, e, _, ws, hw, hr⟩ := s.at r (lstAt_eq h)
    exact ⟨a, ws, e, hw, hr⟩
  · cases h
theorem lst_at {x : Val} {v : V} {xs : List Val} (s : SR K fr H ms st) (r : VR K fr H ms v x) (h : lstOf st x = some xs) : ∃ a ws, v = .ref a ∧ SqL K H a ws ∧ VRs K fr H ms ws xs := by
  unfold lstOf at h
  split at h
  · cases h
    obtain ⟨a, ws, e, h1, h2⟩ := vr_ro r
    exact ⟨a, ws, e, .inl (.inl h1), h2⟩
  · cases h
    obtain ⟨a, ws, e, h1, h2⟩ := vr_wr r
    exact ⟨a, ws, e, h1.sql, h2⟩
  · obtain ⟨a, e, _, ws, hw, hr⟩ := s.at r (lstAt_eq h)
    exact ⟨a, ws, e, .inl (.inl hw), hr⟩
  · cases h
theorem seq_at {x : Val} {v : V} {xs : List Val} (s : SR K fr H ms st) (r : VR K fr H ms v x) (h : seqOf st x = some xs) : ∃ a ws, v = .ref a ∧ (SqL K H a ws ∨ SqT K H a ws) ∧ VRs K fr H ms ws xs := by
  unfold seqOf at h
  split at h
  · cases h
    obtain ⟨a, ws, e, h1, h2⟩ := vr_tup r
    exact ⟨a, ws, e, .inr h1, h2⟩
  · next xs' =>
    obtain ⟨a, ws, e, h1, h2⟩ := lst_at (x := .ro xs') s r h
    exact ⟨a, ws, e, .inl h1, h2⟩
  · next xs' =>
    obtain ⟨a, ws, e, h1, h2⟩ := lst_at (x := .wr xs') s r h
    exact ⟨a, ws, e, .inl h1, h2⟩
  · next p =>
    obtain ⟨a, ws, e, h1, h2⟩ := lst_at (x := .ref p) s r h
    exact ⟨a, ws, e, .inl h1, h2⟩
  · cases h
end
def iTSeq (K : PySem.W.Frag) (tl : TE) : TI := fun σ H R => tl σ H fun x H1 => ∃ a, x = .ref a ∧ (((∃ xs, SqL K H1 a xs) ∧ R (Itl K a) H1) ∨ ((∃ xs, SqT K H1 a xs) ∧ R (Itt K a) H1))
theorem pi_seq {X : Cx} {tg l : Expr} {tl : TE} (hl : PE X l tl) : PI X tg l (iTSeq X.K tl) := by
  constructor
  intro pins s σ H R I h
  refine thn (hl.run pins s σ H _ I h) fun v s1 h1 => ?_
  obtain ⟨x, H1, I1, r1, a, rfl, q⟩ := h1
  obtain rfl : v = Value.ref a := r1
  have fin : ∀ b ∈ [s1.heap.objs.size], FpOk X pins H1 b := fun b hb => by
    have e : b = s1.heap.objs.size := by simpa using hb
    rw [e]
    exact I1.fpOk (Nat.le_refl _) (I1.hok.fresh (Nat.le_refl _))
  rcases q with ⟨⟨xs, hq⟩, q⟩ | ⟨⟨xs, hq⟩, q⟩
  · obtain ⟨its, rv, p, hz⟩ := I1.list hq
    exact wpAny_pyIter_list p.isList ⟨_, _, _, _, H1, rfl, I1.kept (t' := s1.toks) fun _ _ e => Heap.get?_push_of_some _ e, turn_list a _, ⟨_, Heap.get?_push_size _ rfl, rfl, rfl⟩, fin, q⟩
  · obtain ⟨its, rv, p, hz⟩ := I1.tuple hq
    exact wpAny_pyIter_tuple p ⟨_, _, _, _, H1, rfl, I1.kept (t' := s1.toks) fun _ _ e => Heap.get?_push_of_some _ e, turn_tuple a _, ⟨_, Heap.get?_push_size _ rfl, rfl, rfl⟩, fin, q⟩
/-- what a value has as items, seen from here on -/
def curOf (st : Store) (x : Val) : Option Its := match x with
  | .ref p => (match lstAt st p with
    | some _ => some fun s => lstAt s p
    | none => none)
  | .tup xs => some fun _ => some xs
  | .ro xs => some fun _ => some xs
  | .wr xs => some fun _ => some xs
  | _ => none
def iSeq (te : FE) : FI := fun ρ st => (te ρ st).bind fun x st1 => match curOf st1 x with
  | some cur => .ok cur st1
  | none => .bad
theorem itl_ok {K : PySem.W.Frag} {fr : Addr → Prop} {H : Hp} {ms : List Addr} {a : Addr} {cur : Its}
    (h : ∀ fr' H' ms' st' xs, Ext ms.length fr H ms fr' H' ms' → SR K fr' H' ms' st' → cur st' = some xs → ∃ ws, SqL K H' a ws ∧ VRs K fr' H' ms' ws xs) : ItOk K fr H ms (Itl K a) cur := fun i fr1 H1 ms1 st1 xs e1 s1 y1 => by
  obtain ⟨ws, hq, hr⟩ := h fr1 H1 ms1 st1 xs e1 s1 y1
  refine ⟨fun x hx => ?_, fun hi => ⟨ws, hq, by rw [hr.length]; exact hi⟩⟩
  obtain ⟨v, hv, rv⟩ := hr.get hx
  refine ⟨⟨ws, v, hq, hv⟩, fun u H2 y2 => ?_⟩
  obtain ⟨rfl, g⟩ := y2
  have e : u = v := Option.some.inj ((g ws hq).symm.trans hv)
  subst e
  exact ⟨fr1, Ext.refl _ _ _ _, s1, rv⟩
theorem itt_ok {K : PySem.W.Frag} {fr : Addr → Prop} {H : Hp} {ms : List Addr} {a : Addr} {cur : Its}
    (h : ∀ fr' H' ms' st' xs, Ext ms.length fr H ms fr' H' ms' → SR K fr' H' ms' st' → cur st' = some xs → ∃ ws, SqT K H' a ws ∧ VRs K fr' H' ms' ws xs) : ItOk K fr H ms (Itt K a) cur := fun i fr1 H1 ms1 st1 xs e1 s1 y1 => by
  obtain ⟨ws, hq, hr⟩ := h fr1 H1 ms1 st1 xs e1 s1 y1
  refine ⟨fun x hx => ?_, fun hi => ⟨ws, hq, by rw [hr.length]; exact hi⟩⟩
  obtain ⟨v, hv, rv⟩ := hr.get hx
  refine ⟨⟨ws, v, hq, hv⟩, fun u H2 y2 => ?_⟩
  obtain ⟨rfl, g⟩ := y2
  have e : u = v := Option.some.inj ((g ws hq).symm.trans hv)
  subst e
  exact ⟨fr1, Ext.refl _ _ _ _, s1, rv⟩
theorem RoA.sqx {K : PySem.W.Frag} {fr fr1 : Addr → Prop} {H H1 : Hp} {ms ms1 : List Addr} {st : Store} {a : Addr} {ws : List V} (h : RoA K H a ws) (s : SR K fr H ms st) (e : Ext ms.length fr H ms fr1 H1 ms1) : SqL K H1 a ws := (roa_ex s e h).sql
/-- an iterator over a value, list or tuple -/
theorem cur_it {K : PySem.W.Frag} {fr : Addr → Prop} {H : Hp} {ms : List Addr} {st : Store} {x : Val} {v : V} {cur : Its} (s : SR K fr H ms st) (r : VR K fr H ms v x) (h : curOf st x = some cur) :
    ∃ a, v = .ref a ∧ (((∃ xs, SqL K H a xs) ∧ ItOk K fr H ms (Itl K a) cur) ∨ ((∃ xs, SqT K H a xs) ∧ ItOk K fr H ms (Itt K a) cur)) := by
  unfold curOf at h
  split at h
  · next p =>
    split at h
    · next xs hx =>
      cases h
      obtain ⟨a, rfl, hm, ws, hw, hr⟩ := s.at r (lstAt_eq hx)
      refine ⟨a, rfl, .inl ⟨⟨ws, SqL.of hw⟩, itl_ok fun fr2 H2 ms2 st2 ys e2 s2 hy => ?_⟩⟩
      obtain ⟨b, eb, _, zs, hz, hr2⟩ := s2.at (r.ex s e2) (lstAt_eq hy)
      cases eb
      exact ⟨zs, SqL.of hz, hr2⟩
    · cases h
  · cases h
    obtain ⟨a, ws, rfl, h1, h2⟩ := vr_tup r
    refine ⟨a, rfl, .inr ⟨⟨ws, h1⟩, itt_ok fun fr2 H2 ms2 st2 ys e2 s2 hy => ?_⟩⟩
    cases hy
    exact ⟨ws, sqt_ex s e2 h1, h2.ex s e2⟩
  · cases h
    obtain ⟨a, ws, rfl, h1, h2⟩ := vr_ro r
    refine ⟨a, rfl, .inl ⟨⟨ws, SqL.of h1⟩, itl_ok fun fr2 H2 ms2 st2 ys e2 s2 hy => ?_⟩⟩
    cases hy
    obtain ⟨b, ws2, eb, h3, h4⟩ := vr_ro (r.ex s e2)
    cases eb
    exact ⟨ws2, SqL.of h3, h4⟩
  · cases h
    obtain ⟨a, ws, rfl, h1, h2⟩ := vr_wr r
    refine ⟨a, rfl, .inl ⟨⟨ws, h1.sql⟩, itl_ok fun fr2 H2 ms2 st2 ys e2 s2 hy => ?_⟩⟩
    cases hy
    exact ⟨ws, h1.sqx s e2, h2.ex s e2⟩
  · cases h
theorem i_seq {X : Cx} {W : WX} {tg e : Expr} {te : FE} (he : DE X W e te) : DI X W tg e (iSeq te) := pi_imp (pi_seq he) fun σ H R ⟨fr, ms, ρ, st, w, g⟩ =>
  ⟨fr, ms, ρ, st, w, g.bind.mono fun x st1 fr1 H1 ms1 _ _ ⟨e1, s1, g1⟩ v rv => by
    cases hc : curOf st1 x with
    | none =>
      rw [hc] at g1
      exact g1.elim
    | some cur =>
      rw [hc] at g1
      have k := g1.now s1
      obtain ⟨a, rfl, q⟩ := cur_it s1 rv hc
      refine ⟨a, rfl, q.imp (fun q => ⟨q.1, k _ q.2⟩) fun q => ⟨q.1, k _ q.2⟩⟩⟩
/-- range(n), range(a, b) -/
def rngs (lo : Int) (n : Nat) : List Val := (List.range n).map fun i => Val.int (lo + (i : Nat))
def okRg (a b : Int) : Bool := decide (-(2 ^ 62) ≤ a ∧ a < 2 ^ 62 ∧ -(2 ^ 62) ≤ b ∧ b < 2 ^ 62)
def iRg1 (ta : FA) : FI := fun ρ st => (ta ρ st).bind fun xs st1 => match xs with
  | [.int n] => bif okRg 0 n then .ok (fun _ => some (rngs 0 n.toNat)) st1 else .bad
  | _ => .bad
def iRg2 (ta : FA) : FI := fun ρ st => (ta ρ st).bind fun xs st1 => match xs with
  | [.int a, .int b] => bif okRg a b then .ok (fun _ => some (rngs a (b - a).toNat)) st1 else .bad
  | _ => .bad
theorem rngs_len (lo : Int) (n : Nat) : (rngs lo n).length = n := by unfold rngs; rw [List.length_map, List.length_range]
theorem rngs_get {lo : Int} {n i : Nat} {x : Val} (h : (rngs lo n)[i]? = some x) : i < n ∧ x = .int (lo + (i : Nat)) := by
  unfold rngs at h
  rw [List.getElem?_map] at h
  cases e : (List.range n)[i]? with
  | none =>
    rw [e] at h
    cases h
  | some j =>
    rw [e] at h
    have hl := (List.getElem?_eq_some_iff.mp e).1
    rw [List.length_range] at hl
    rw [List.getElem?_range hl] at e
    cases e
    cases h
    exact ⟨hl, rfl⟩
theorem itr_ok {K : PySem.W.Frag} {fr : Addr → Prop} {H : Hp} {ms : List Addr} {lo : Int} {n : Nat} : ItOk K fr H ms (Itr lo n) (fun _ => some (rngs lo n)) := fun i fr1 H1 ms1 st1 xs e1 s1 hx => by
  cases hx
  refine ⟨fun x hx => ?_, fun hi => by rw [rngs_len] at hi; exact hi⟩
  obtain ⟨hi, rfl⟩ := rngs_get hx
  refine ⟨hi, fun v H2 y => ?_⟩
  obtain ⟨rfl, rfl⟩ := y
  exact ⟨fr1, Ext.refl _ _ _ _, s1, .int _⟩
section
variable {X : Cx} {W : WX} {tg a b : Expr} {ta : FA} {p pos : Pos}
theorem i_rg1 (hm : X.mg "range" = none) (ha : DA X W [a] ta) (hg : Gl X "range" := by rfl) (hs : starEach [a] X.env = [(false, eval a X.env)] := by rfl) : DI X W tg (.Call (.Name "range" p) [a] [] pos) (iRg1 ta) :=
  pi_imp (pi_range1 hg hm ha hs) fun σ H R ⟨fr, ms, ρ, st, w, g⟩ => ⟨fr, ms, ρ, st, w, g.bind.mono fun xs st1 fr1 H1 ms1 _ _ ⟨e1, s1, g1⟩ vs rs => by
    split at g1
    · obtain ⟨v, rfl, r⟩ := vrs1 rs
      obtain ⟨ho, g2⟩ := g1.cond
      have ho := of_decide_eq_true ho
      exact ⟨_, by rw [vr_int r], ho.2.2.1, ho.2.2.2, g2.now s1 _ itr_ok⟩
    · exact g1.elim⟩
theorem i_rg2 (hm : X.mg "range" = none) (ha : DA X W [a, b] ta) (hg : Gl X "range" := by rfl) (hs : starEach [a, b] X.env = [(false, eval a X.env), (false, eval b X.env)] := by rfl) (hs2 : starEach [b] X.env = [(false, eval b X.env)] := by rfl) :
    DI X W tg (.Call (.Name "range" p) [a, b] [] pos) (iRg2 ta) := pi_imp (pi_range2 hg hm ha hs hs2) fun σ H R ⟨fr, ms, ρ, st, w, g⟩ => ⟨fr, ms, ρ, st, w, g.bind.mono fun xs st1 fr1 H1 ms1 _ _ ⟨e1, s1, g1⟩ vs rs => by
    split at g1
    · obtain ⟨v, u, rfl, r, r2⟩ := vrs2 rs
      obtain ⟨ho, g2⟩ := g1.cond
      have ho := of_decide_eq_true ho
      exact ⟨_, _, by rw [vr_int r, vr_int r2], ho, g2.now s1 _ itr_ok⟩
    · exact g1.elim⟩
end
theorem OpR.or {X : Cx} {f : Value → Value → Sem Value} {r r' : R2} (h : OpR X f r) (h' : OpR X f r') : OpR X f (fun x y H Q => r x y H Q ∨ r' x y H Q) := fun pins s σ H x y v u Q I rx ry q => q.elim (h pins s σ H x y v u Q I rx ry) (h' pins s σ H x y v u Q I rx ry)
end FL
namespace FL
open PySem PySem.Spec PyProof.Rows L2
theorem tm_one (l : Addr) (items : Array Value) (n : Nat) (dd : Option Addr) (sl : Array (Option Value)) (u : Tok) :
    Meets (Builtin.«tuple.__mul__» ⟨[.ref l, .int 1 u], []⟩) (fun _ R s => s.heap.get? l = some { cls := .type "tuple", dict := dd, data := .seq items n, slots := sl } ∧ R (.ok (.ret (Value.ref l))) s) :=
  .of_wp fun prog w A R s h => by
    obtain ⟨hp, g, d, tk, os⟩ := s; obtain ⟨hl, h⟩ := h
    have f1 := AutoSeq1.idx_int
    have c1 : (items.isEmpty || (1 : Int) == 1) = true := by simp
    wp_walk using wpAny_loadPart' hl
    repeat (first
      | (refine wpAny_ite_true (decide_eq_true (by rw [c1])) ?_; wp_walk using wpAny_loadPart' hl)
      | (rw [if_pos (by simp)]; wp_walk using wpAny_loadPart' hl))
    exact ⟨_, rfl, h⟩
theorem tm_zero (l : Addr) (items : Array Value) (n : Nat) (dd : Option Addr) (sl : Array (Option Value)) (u : Tok) (he : items.isEmpty = false) :
    Meets (Builtin.«tuple.__mul__» ⟨[.ref l, .int 0 u], []⟩) (fun _ R s => s.heap.get? l = some { cls := .type "tuple", dict := dd, data := .seq items n, slots := sl } ∧
      R (.ok (.ret (Value.ref s.heap.objs.size))) { s with heap := s.heap.push { cls := Value.type "tuple", data := Data.seq #[] }, toks := s.toks }) :=
  .of_wp fun prog w A R s h => by
    obtain ⟨hp, g, d, tk, os⟩ := s; obtain ⟨hl, h⟩ := h
    have f1 := AutoSeq1.idx_int
    have c1 : (items.isEmpty || (0 : Int) == 1) = false := by rw [he]; rfl
    wp_walk using wpAny_loadPart' hl
    exact ⟨_, rfl, h⟩
def rRepA (K : PySem.W.Frag) : R2 := fun x y H Q => ∃ l k xs, x = .ref l ∧ y = .int k ∧ SqT K H l xs ∧ xs ≠ [] ∧ 0 ≤ k ∧ k ≤ 1000 ∧ xs.length ≤ 1000 ∧ (k = 1 → Q (.ref l) H) ∧ ∀ p, H p = none → Q (.ref p) (upd H p (.tup (List.replicate k.toNat xs).flatten))
theorem op_repA {X : Cx} : OpR X (binaryOp .Mult) (rRepA X.K) := by
  intro pins s σ H x y v u Q I rx ry h
  obtain ⟨l, k, xs, rfl, rfl, hT, hne, h1, h2, hz, q1, q⟩ := h
  by_cases hk : 2 ≤ k
  · exact op_repT pins s σ H _ _ v u Q I rx ry ⟨l, k, xs, rfl, rfl, hT, hne, hk, h2, hz, q⟩
  cases rx
  obtain ⟨t, rfl⟩ := ry
  obtain ⟨its, r, ⟨⟨cls, dd, data, sl⟩, ho, hc, n, hd⟩, hs⟩ := I.tuple hT
  simp only at hc hd
  subst hc hd
  have hi : its.toArray.isEmpty = false := by
    cases its with
    | nil =>
      cases r
      exact absurd rfl hne
    | cons a b => rfl
  refine wpAny_binaryOp_repeat_ref (T := "tuple") (U := "int") (by decide) ⟨_, ho, rfl⟩ (fun s' => typeIs_int s' k t) noFill_tuple_mul F.fills_int_mul F.slot_int_rmul repeat_tuple F.slot_int_index.lookup
    (call_meets F.slot_int_rmul (typeIs_int s k t) F.entry_int_rmul (F.args_int_rmul_2 _ _) (int_rmul_tuple k t l its.toArray n dd sl) ⟨ho, rfl, ⟨_, ho, rfl⟩, ?_⟩)
  rcases (by omega : k = 0 ∨ k = 1) with rfl | rfl
  · refine call_meets F.slot_tuple_mul ⟨_, ho, rfl⟩ F.entry_tuple_mul (F.args_tuple_mul_2 _ _) (tm_zero l its.toArray n dd sl t hi) ⟨ho, ?_⟩
    exact ⟨.ref s.heap.objs.size, _, I.laid (t' := s.toks) (o := .tup []) (fun b ob q => Heap.get?_push_of_some _ q) (Nat.le_refl _) ⟨Nat.zero_le _, [], .nil, IsTup.new _ _⟩, rfl, q _ (I.hok.fresh (Nat.le_refl _))⟩
  · refine call_meets F.slot_tuple_mul ⟨_, ho, rfl⟩ F.entry_tuple_mul (F.args_tuple_mul_2 _ _) (tm_one l its.toArray n dd sl t) ⟨ho, ?_⟩
    exact ⟨.ref l, H, I, rfl, q1 rfl⟩
/-! ### operators by values -/
abbrev OV := Option (Val × Store)
def fAdd (c : Bool) : F2 := fun x y st => match x, y with
  | .int i, .int j => some (.int (i + j), st)
  | .tup xs, .tup ys => bif Nat.ble (xs.length + ys.length) sizeLine then some (.tup (xs ++ ys), st) else none
  | .str z, .str u => bif Nat.ble (z.length + u.length) sizeLine then some (.str (z ++ u), st) else none
  | x, y => (match plOf st x, plOf st y with
    | some xs, some ys => bif Nat.ble (xs.length + ys.length) sizeLine then some (newL c (xs ++ ys) st) else none
    | _, _ => none)
def rAddU (K : PySem.W.Frag) : R2 := fun x y H Q => ((rI0 fun i j => .int (i + j)) x y H Q ∨ rCatA K x y H Q) ∨ ((∃ i j, x = .str i ∧ y = .str j ∧ i.length + j.length ≤ sizeLine ∧ Q (.str (i ++ j)) H) ∨ rCat x y H Q)
theorem op_addU {X : Cx} : OpR X (binaryOp .Add) (rAddU X.K) := (op_add.or op_catA).or (op_add_str.or op_cat)
theorem cond_some {α : Type} {b : Bool} {o : Option α} {z : α} (h : (bif b then o else none) = some z) : b = true ∧ o = some z := by
  cases b with
  | true => exact ⟨rfl, h⟩
  | false => cases h
section
variable {K : PySem.W.Frag}
theorem r2_add (c : Bool) : R2F K (rAddU K) (fAdd c) := fun fr H ms st x y sx sy z st' Q s rx ry h q => by
  unfold fAdd at h
  split at h
  · cases h
    exact .inl (.inl ⟨_, _, vr_int rx, vr_int ry, q.now s (.int _)⟩)
  · obtain ⟨hb, h⟩ := cond_some h
    cases h
    obtain ⟨a, ws, rfl, h1, h2⟩ := vr_tup rx
    obtain ⟨b, zs, rfl, h3, h4⟩ := vr_tup ry
    have hl : ws.length + zs.length ≤ sizeLine := by rw [h2.length, h4.length]; exact Nat.le_of_ble_eq_true hb
    refine .inl (.inr ⟨a, b, ws, zs, rfl, rfl, h1, h3, hl, fun e => ?_, fun _ e => ?_, fun _ _ p n => q.tup s (h2.app h4) n⟩)
    · subst e
      cases h2
      exact q.now s (.tup h3 h4)
    · subst e
      cases h4
      rw [List.append_nil] at q
      exact q.now s (.tup h1 h2)
  · obtain ⟨hb, h⟩ := cond_some h
    cases h
    exact .inr (.inl ⟨_, _, vr_str rx, vr_str ry, Nat.le_of_ble_eq_true hb, q.now s (.str _)⟩)
  · split at h
    · next xs ys hx hy =>
      obtain ⟨hb, h⟩ := cond_some h
      obtain ⟨a, ws, rfl, h1, h2⟩ := pl_at s rx hx
      obtain ⟨b, zs, rfl, h3, h4⟩ := pl_at s ry hy
      have e := Option.some.inj h
      rw [← show (newL c (xs ++ ys) st).1 = z from congrArg Prod.fst e, ← show (newL c (xs ++ ys) st).2 = st' from congrArg Prod.snd e] at q
      exact .inr (.inr ⟨a, b, ws, zs, rfl, rfl, h1, h3, by rw [h2.length, h4.length]; exact Nat.le_of_ble_eq_true hb, fun p n => q.newl s (h2.app h4) n⟩)
    · cases h
def okMul (i j : Int) : Bool := decide ((-(2 ^ 64) < i ∧ i < 2 ^ 64) ∨ (-(2 ^ 64) < j ∧ j < 2 ^ 64)) || decide (i.natAbs.log2 + j.natAbs.log2 < 1000000)
def okDiv (j : Int) : Bool := decide (0 < j) && decide (j.natAbs.log2 < 9000)
def okPow (i j : Int) : Bool := decide (0 ≤ j ∧ j ≤ 1000000 ∧ i.natAbs < 2 ^ 64)
theorem okMul_at {i j : Int} (h : okMul i j = true) : CMul i j ∨ CMulW i j := (Bool.or_eq_true_iff.mp h).imp (fun q => by have r := of_decide_eq_true q; exact r) fun q => by have r := of_decide_eq_true q; exact r
theorem okDiv_at {i j : Int} (h : okDiv j = true) : CDivW i j := let q := Bool.and_eq_true_iff.mp h; ⟨of_decide_eq_true q.1, of_decide_eq_true q.2⟩
def fMul (c : Bool) : F2 := fun x y st => match x, y with
  | .int i, .int j => bif okMul i j then some (.int (i * j), st) else none
  | .tup ds, .int j => bif decide (ds.length ≠ 0 ∧ 0 ≤ j ∧ j ≤ 1000 ∧ ds.length ≤ 1000) then some (.tup (List.replicate j.toNat ds).flatten, st) else none
  | x, .int j => (match plOf st x with
    | some xs => bif decide (-(2 ^ 63) ≤ j ∧ j < 2 ^ 63 ∧ xs.length * j.toNat ≤ sizeLine) then some (newL c (List.replicate j.toNat xs).flatten st) else none
    | _ => none)
  | _, _ => none
def rMulU (K : PySem.W.Frag) : R2 := fun x y H Q => ((rI CMul fun i j => .int (i * j)) x y H Q ∨ (rI CMulW fun i j => .int (i * j)) x y H Q) ∨ (rRep x y H Q ∨ rRepA K x y H Q)
theorem op_mulU {X : Cx} : OpR X (binaryOp .Mult) (rMulU X.K) := (op_mul.or op_mulW).or (op_rep.or op_repA)
theorem r2_mul (c : Bool) : R2F K (rMulU K) (fMul c) := fun fr H ms st x y sx sy z st' Q s rx ry h q => by
  unfold fMul at h
  split at h
  · obtain ⟨hb, h⟩ := cond_some h
    cases h
    rcases okMul_at hb with c | c
    · exact .inl (.inl ⟨_, _, vr_int rx, vr_int ry, c, q.now s (.int _)⟩)
    · exact .inl (.inr ⟨_, _, vr_int rx, vr_int ry, c, q.now s (.int _)⟩)
  · obtain ⟨hb, h⟩ := cond_some h
    cases h
    obtain ⟨g0, g1, g2, g3⟩ := of_decide_eq_true hb
    obtain ⟨a, ws, rfl, h1, h2⟩ := vr_tup rx
    have hl := h2.length
    refine .inr (.inr ⟨a, _, ws, rfl, vr_int ry, h1, fun z => ?_, g1, g2, by rw [hl]; exact g3, fun z => ?_, fun p n => q.tup s (h2.rep _) n⟩)
    · rw [z] at hl
      exact g0 hl.symm
    · subst z
      rw [show (List.replicate (1 : Int).toNat _).flatten = _ from List.append_nil _] at q
      exact q.now s rx
  · split at h
    · next xs hx =>
      obtain ⟨hb, h⟩ := cond_some h
      obtain ⟨a, ws, rfl, h1, h2⟩ := pl_at s rx hx
      have e := Option.some.inj h
      obtain ⟨b1, b2, b3⟩ := of_decide_eq_true hb
      rw [← show (newL c _ st).1 = z from congrArg Prod.fst e, ← show (newL c _ st).2 = st' from congrArg Prod.snd e] at q
      exact .inr (.inl ⟨a, _, ws, rfl, vr_int ry, h1, b1, b2, by rw [h2.length]; exact b3, fun p n => q.newl s (h2.rep _) n⟩)
    · cases h
  · cases h
/-- two ints -/
def fI (C : Int → Int → Bool) (g : Int → Int → Val) : F2 := fun x y st => match x, y with
  | .int i, .int j => bif C i j then some (g i j, st) else none
  | _, _ => none
def fI0 (g : Int → Int → Val) : F2 := fun x y st => match x, y with
  | .int i, .int j => some (g i j, st)
  | _, _ => none
theorem r2_I0 {g : Int → Int → V} {g' : Int → Int → Val} (hg : ∀ fr H ms i j, VR K fr H ms (g i j) (g' i j)) : R2F K (rI0 g) (fI0 g') := fun fr H ms st x y sx sy z st' Q s rx ry h q => by
  unfold fI0 at h
  split at h
  · cases h
    exact ⟨_, _, vr_int rx, vr_int ry, q.now s (hg _ _ _ _ _)⟩
  · cases h
theorem r2_I {C' : Int → Int → Prop} {C : Int → Int → Bool} {g : Int → Int → V} {g' : Int → Int → Val} (hC : ∀ i j, C i j = true → C' i j) (hg : ∀ fr H ms i j, VR K fr H ms (g i j) (g' i j)) : R2F K (rI C' g) (fI C g') := fun fr H ms st x y sx sy z st' Q s rx ry h q => by
  unfold fI at h
  split at h
  · obtain ⟨hb, h⟩ := cond_some h
    cases h
    exact ⟨_, _, vr_int rx, vr_int ry, hC _ _ hb, q.now s (hg _ _ _ _ _)⟩
  · cases h
def fSub : F2 := fI0 fun i j => .int (i - j)
def fDiv : F2 := fI (fun _ j => okDiv j) fun i j => .int (i / j)
def fMod : F2 := fI (fun _ j => decide (0 < j)) fun i j => .int (i % j)
def fPow : F2 := fI okPow fun i j => .int (i ^ j.toNat)
def fLt : F2 := fI0 fun i j => .bl (decide (i < j))
def fLe : F2 := fI0 fun i j => .bl (decide (i ≤ j))
def fGt : F2 := fI0 fun i j => .bl (decide (j < i))
def fGe : F2 := fI0 fun i j => .bl (decide (j ≤ i))
theorem r2_sub : R2F K (rI0 fun i j => .int (i - j)) fSub := r2_I0 fun _ _ _ _ _ => .int _
theorem r2_div : R2F K (rI CDivW fun i j => .int (i / j)) fDiv := r2_I (fun _ _ h => okDiv_at h) fun _ _ _ _ _ => .int _
theorem r2_mod : R2F K (rI (fun _ j => 0 < j) fun i j => .int (i % j)) fMod := r2_I (fun _ _ h => of_decide_eq_true h) fun _ _ _ _ _ => .int _
theorem r2_pow : R2F K (rI CPow fun i j => .int (i ^ j.toNat)) fPow := r2_I (fun _ _ h => by have r := of_decide_eq_true h; exact r) fun _ _ _ _ _ => .int _
theorem r2_lt : R2F K (rI0 fun i j => .bl (decide (i < j))) fLt := r2_I0 fun _ _ _ _ _ => .bl _
theorem r2_le : R2F K (rI0 fun i j => .bl (decide (i ≤ j))) fLe := r2_I0 fun _ _ _ _ _ => .bl _
theorem r2_gt : R2F K (rI0 fun i j => .bl (decide (j < i))) fGt := r2_I0 fun _ _ _ _ _ => .bl _
theorem r2_ge : R2F K (rI0 fun i j => .bl (decide (j ≤ i))) fGe := r2_I0 fun _ _ _ _ _ => .bl _
/-! ### data -/
mutual
def toDV (lk : Nat → Option PyData) : Val → Option PyData
  | .non => some .none
  | .bl b => some (.bool b)
  | .int i => some (.int i)
  | .str x => some (.str x)
  | .tup xs => (match toDVs lk xs with
    | some ds => some (.tuple ds)
    | none => none)
  | .ro xs => (match toDVs lk xs with
    | some ds => some (.list ds)
    | none => none)
  | .wr xs => (match toDVs lk xs with
    | some ds => some (.list ds)
    | none => none)
  | .ref p => lk p
  | _ => none
def toDVs (lk : Nat → Option PyData) : List Val → Option (List PyData)
  | [] => some []
  | x :: xs => (match toDV lk x, toDVs lk xs with
    | some d, some ds => some (d :: ds)
    | _, _ => none)
end
def toDN (st : Store) : Nat → Nat → Option PyData
  | 0, _ => none
  | m + 1, p => (match lstAt st p with
    | some xs => (match toDVs (toDN st m) xs with
      | some ds => some (.list ds)
      | none => none)
    | none => none)
/-- how deep cells are followed -/
def deepN : Nat := 40
def toD (st : Store) (x : Val) : Option PyData := toDV (toDN st deepN) x
def LkOk (K : PySem.W.Frag) (fr : Addr → Prop) (H : Hp) (ms : List Addr) (lk : Nat → Option PyData) : Prop := ∀ p d v, lk p = some d → VR K fr H ms v (.ref p) → Dp K H v d
mutual
theorem toDV_at {fr : Addr → Prop} {H : Hp} {ms : List Addr} {lk : Nat → Option PyData} (s : LkOk K fr H ms lk) : ∀ {x : Val} {v : V} {d : PyData}, toDV lk x = some d → VR K fr H ms v x → Dp K H v d
  | .non, _, _, h, r => by unfold toDV at h; cases h; cases r; exact .non
  | .bl b, _, _, h, r => by unfold toDV at h; cases h; cases r; exact .bl b
  | .int i, _, _, h, r => by unfold toDV at h; cases h; cases r; exact .int i
  | .str i, _, _, h, r => by unfold toDV at h; cases h; cases r; exact .str i
  | .tup xs, _, _, h, r => by
    unfold toDV at h
    split at h
    · next ds hd =>
      cases h
      cases r with
      | tup h1 h2 => exact .tup h1 (toDVs_at s hd h2)
    · cases h
  | .ro xs, _, _, h, r => by
    unfold toDV at h
    split at h
    · next ds hd =>
      cases h
      cases r with
      | ro h1 f h2 => exact .lst (.inl (.inl h1)) (toDVs_at s hd h2)
    · cases h
  | .wr xs, _, _, h, r => by
    unfold toDV at h
    split at h
    · next ds hd =>
      cases h
      cases r with
      | wr h1 h2 => exact .lst h1.sql (toDVs_at s hd h2)
    · cases h
  | .ref p, _, _, h, r => by
    unfold toDV at h
    exact s p _ _ h r
  | .rd _ _, _, _, h, r => by unfold toDV at h; cases h
  | .ty _, _, _, h, r => by unfold toDV at h; cases h
  | .gl _, _, _, h, r => by unfold toDV at h; cases h
  | .ex0 _, _, _, h, r => by unfold toDV at h; cases h
  | .ex1 _ _ _, _, _, h, r => by unfold toDV at h; cases h
theorem toDVs_at {fr : Addr → Prop} {H : Hp} {ms : List Addr} {lk : Nat → Option PyData} (s : LkOk K fr H ms lk) : ∀ {x : List Val} {v : List V} {d : List PyData}, toDVs lk x = some d → VRs K fr H ms v x → DpAll K H v d
  | [], _, _, h, r => by unfold toDVs at h; cases h; cases r; exact .nil
  | x :: xs, _, _, h, r => by
    unfold toDVs at h
    split at h
    · next d ds h1 h2 =>
      cases h
      cases r with
      | cons a b => exact .cons (toDV_at s h1 a) (toDVs_at s h2 b)
    · cases h
end
theorem toDN_ok {fr : Addr → Prop} {H : Hp} {ms : List Addr} {st : Store} (s : SR K fr H ms st) : ∀ m : Nat, LkOk K fr H ms (toDN st m)
  | 0 => fun p d v h _ => by cases h
  | m + 1 => fun p d v h r => by
    unfold toDN at h
    split at h
    · next xs hx =>
      split at h
      · next ds hd =>
        cases h
        obtain ⟨a, rfl, _, ws, h1, h2⟩ := s.at r (lstAt_eq hx)
        exact .lst (.inl (.inl h1)) (toDVs_at (toDN_ok s m) hd h2)
      · cases h
    · cases h
theorem toD_at {fr : Addr → Prop} {H : Hp} {ms : List Addr} {st : Store} (s : SR K fr H ms st) {x : Val} {v : V} {d : PyData} (h : toD st x = some d) (r : VR K fr H ms v x) : Dp K H v d := toDV_at (toDN_ok s _) h r
def eqF (st : Store) (x y : Val) : Option Bool := match x, y with
  | .int i, .int j => some (decide (i = j))
  | .str i, .str j => some (decide (i = j))
  | x, y => (match toD st x, toD st y with
    | some d, some e => bif SeqAt.shaped d && SeqAt.shaped e then some (PyData.eqv d e) else none
    | _, _ => none)
def fEq (neg : Bool) : F2 := fun x y st => match eqF st x y with
  | some b => some (.bl (bif neg then !b else b), st)
  | none => none
theorem dec_vi {i j : Int} : decide (V.int i = V.int j) = decide (i = j) := by
  by_cases h : i = j
  · rw [h]
    simp
  · rw [decide_eq_false h, decide_eq_false fun z => h (V.int.inj z)]
theorem dec_vs {i j : Str} : decide (V.str i = V.str j) = decide (i = j) := by
  by_cases h : i = j
  · rw [h]
    simp
  · rw [decide_eq_false h, decide_eq_false fun z => h (V.str.inj z)]
def rEqU (K : PySem.W.Frag) : R2 := fun x y H Q => rEq x y H Q ∨ rEqD K x y H Q
def rNeU (K : PySem.W.Frag) : R2 := fun x y H Q => rNe x y H Q ∨ rNeD K x y H Q
theorem op_eqU {X : Cx} (hu : X.A.units + 64 < cLine) : OpR X (compareOp .Eq) (rEqU X.K) := op_eq.or (op_eqD hu)
theorem op_neU {X : Cx} (hu : X.A.units + 64 < cLine) : OpR X (compareOp .NotEq) (rNeU X.K) := op_ne.or (op_neD hu)
theorem eqF_at {fr : Addr → Prop} {H : Hp} {ms : List Addr} {st : Store} {x y : Val} {v u : V} {b : Bool} (s : SR K fr H ms st) (rx : VR K fr H ms v x) (ry : VR K fr H ms u y) (h : eqF st x y = some b) :
    (scal v u = true ∧ decide (v = u) = b) ∨ ∃ d e, Dp K H v d ∧ Dp K H u e ∧ SeqAt.shaped d = true ∧ SeqAt.shaped e = true ∧ PyData.eqv d e = b := by
  unfold eqF at h
  split at h
  · cases h
    rw [vr_int rx, vr_int ry]
    exact .inl ⟨rfl, dec_vi⟩
  · cases h
    rw [vr_str rx, vr_str ry]
    exact .inl ⟨rfl, dec_vs⟩
  · split at h
    · next d e h1 h2 =>
      obtain ⟨hb, h⟩ := cond_some h
      cases h
      have hb := Bool.and_eq_true_iff.mp hb
      exact .inr ⟨d, e, toD_at s h1 rx, toD_at s h2 ry, hb.1, hb.2, rfl⟩
    · cases h
theorem r2_eq : R2F K (rEqU K) (fEq false) := fun fr H ms st x y sx sy z st' Q s rx ry h q => by
  unfold fEq at h
  split at h
  · next b hb =>
    cases h
    have qq := q.now s (.bl _)
    rcases eqF_at s rx ry hb with ⟨h1, h2⟩ | ⟨d, e, h1, h2, h3, h4, h5⟩
    · exact .inl ⟨h1, by rw [h2]; exact qq⟩
    · exact .inr ⟨d, e, h1, h2, h3, h4, by rw [h5]; exact qq⟩
  · cases h
theorem r2_ne : R2F K (rNeU K) (fEq true) := fun fr H ms st x y sx sy z st' Q s rx ry h q => by
  unfold fEq at h
  split at h
  · next b hb =>
    cases h
    have qq := q.now s (.bl _)
    rcases eqF_at s rx ry hb with ⟨h1, h2⟩ | ⟨d, e, h1, h2, h3, h4, h5⟩
    · exact .inl ⟨h1, by rw [h2]; exact qq⟩
    · exact .inr ⟨d, e, h1, h2, h3, h4, by rw [h5]; exact qq⟩
  · cases h
end
end FL
namespace FL
open PySem PySem.Spec PyProof.Rows L2
/-! ### dicts over data -/
section
variable {κ α : Type} [DecidableEq κ]
def valS (es : List (κ × α)) (k : κ) : Option α := (es.find? fun e => decide (e.1 = k)).map (·.2)
def putS (es : List (κ × α)) (k : κ) (v : α) : List (κ × α) := if (es.any fun e => decide (e.1 = k)) = true then es.map (fun e => if e.1 = k then (e.1, v) else e) else es ++ [(k, v)]
theorem valS_nil {k : κ} : valS ([] : List (κ × α)) k = none := rfl
theorem valS_pos {p : κ × α} {r : List (κ × α)} {k : κ} (e : p.1 = k) : valS (p :: r) k = some p.2 := by simp [valS, List.find?_cons, e]
theorem valS_neg {p : κ × α} {r : List (κ × α)} {k : κ} (e : ¬ p.1 = k) : valS (p :: r) k = valS r k := by simp [valS, List.find?_cons, e]
theorem valS_any (k : κ) : ∀ es : List (κ × α), (es.any fun kv => decide (kv.1 = k)) = (valS es k).isSome
  | [] => rfl
  | p :: r => by
    rw [List.any_cons]
    by_cases e : p.1 = k
    · rw [valS_pos e, decide_eq_true e]
      rfl
    · rw [valS_neg e, decide_eq_false e, valS_any k r]
      rfl
theorem putS_new {es : List (κ × α)} {k : κ} {v : α} (h : valS es k = none) : putS es k v = es ++ [(k, v)] := by
  unfold putS
  rw [valS_any, h]
  rfl
theorem putS_old {es : List (κ × α)} {k : κ} {v : α} (h : (valS es k).isSome = true) : putS es k v = es.map (fun e => if e.1 = k then (e.1, v) else e) := by
  unfold putS
  rw [valS_any, if_pos h]
theorem valS_map (k j : κ) (y : α) : ∀ es : List (κ × α), valS (es.map fun e => if e.1 = k then (e.1, y) else e) j = (valS es j).map fun x => if j = k then y else x
  | [] => rfl
  | p :: r => by
    rw [List.map_cons]
    by_cases e : p.1 = j
    · subst e
      by_cases e2 : p.1 = k
      · rw [if_pos e2, valS_pos rfl, valS_pos rfl, Option.map_some, if_pos e2]
      · rw [if_neg e2, valS_pos rfl, valS_pos rfl, Option.map_some, if_neg e2]
    · rw [valS_neg e, ← valS_map k j y r]
      by_cases e2 : p.1 = k
      · rw [if_pos e2, valS_neg (p := (p.1, y)) e]
      · rw [if_neg e2, valS_neg e]
theorem valS_snoc (k j : κ) (y : α) : ∀ es : List (κ × α), valS es k = none → valS (es ++ [(k, y)]) j = if j = k then some y else valS es j
  | [], _ => by
    by_cases e : k = j
    · rw [if_pos e.symm, List.nil_append, valS_pos e]
    · rw [if_neg (fun z => e z.symm), List.nil_append, valS_neg e]
  | p :: r, h => by
    have ek : ¬ p.1 = k := fun z => by
      rw [valS_pos z] at h
      cases h
    rw [valS_neg ek] at h
    rw [List.cons_append]
    by_cases e : p.1 = j
    · rw [valS_pos e, valS_pos e, if_neg fun z => ek (e.trans z)]
    · rw [valS_neg e, valS_neg e, valS_snoc k j y r h]
theorem valS_put (es : List (κ × α)) (k j : κ) (y : α) : valS (putS es k y) j = if j = k then some y else valS es j := by
  cases h : valS es k with
  | none => rw [putS_new h, valS_snoc k j y es h]
  | some v =>
    rw [putS_old (by rw [h]; rfl), valS_map]
    by_cases e : j = k
    · subst e
      rw [h, if_pos rfl, Option.map_some, if_pos rfl]
    · rw [if_neg e]
      cases valS es j with
      | none => rfl
      | some x => rw [Option.map_some, if_neg e]
theorem length_putS (es : List (κ × α)) (k : κ) (v : α) : (putS es k v).length ≤ es.length + 1 := by
  unfold putS
  split
  · rw [List.length_map]
    omega
  · rw [List.length_append]
    exact Nat.le_refl _
variable {K : PySem.W.Frag} {fr : Addr → Prop} {H : Hp} {ms : List Addr}
theorem VRk.val {ws : List (κ × V)} {es : List (κ × Val)} (r : VRk K fr H ms ws es) (k : κ) : ∀ {x : Val}, valS es k = some x → ∃ v, valV ws k = some v ∧ VR K fr H ms v x := by
  induction r with
  | nil => intro x h; cases h
  | @cons k' v vs y ys a b ih =>
    intro x h
    by_cases e : k' = k
    · rw [valS_pos (p := (k', y)) e] at h
      cases h
      exact ⟨v, valV_pos (p := (k', v)) e, a⟩
    · rw [valS_neg (p := (k', y)) e] at h
      obtain ⟨u, h1, h2⟩ := ih h
      exact ⟨u, (valV_neg (p := (k', v)) e).trans h1, h2⟩
theorem VRk.noval {ws : List (κ × V)} {es : List (κ × Val)} (r : VRk K fr H ms ws es) (k : κ) (h : valS es k = none) : valV ws k = none := by
  induction r with
  | nil => rfl
  | @cons k' v vs y ys a b ih =>
    by_cases e : k' = k
    · rw [valS_pos (p := (k', y)) e] at h
      cases h
    · rw [valS_neg (p := (k', y)) e] at h
      exact (valV_neg (p := (k', v)) e).trans (ih h)
theorem VRk.isSome {ws : List (κ × V)} {es : List (κ × Val)} (r : VRk K fr H ms ws es) (k : κ) : (valV ws k).isSome = (valS es k).isSome := by
  cases h : valS es k with
  | none => rw [r.noval k h]; rfl
  | some x =>
    obtain ⟨v, h1, _⟩ := r.val k h
    rw [h1]
    rfl
theorem VRk.map_put {ws : List (κ × V)} {es : List (κ × Val)} (r : VRk K fr H ms ws es) (k : κ) {v : V} {x : Val} (h : VR K fr H ms v x) :
    VRk K fr H ms (ws.map fun kv => if kv.1 = k then (kv.1, v) else kv) (es.map fun e => if e.1 = k then (e.1, x) else e) := by
  induction r with
  | nil => exact .nil
  | @cons k' u vs y ys a b ih =>
    rw [List.map_cons, List.map_cons]
    by_cases e : k' = k
    · rw [if_pos (show ((k', u) : κ × V).1 = k from e), if_pos (show ((k', y) : κ × Val).1 = k from e)]
      exact .cons h ih
    · rw [if_neg (show ¬ ((k', u) : κ × V).1 = k from e), if_neg (show ¬ ((k', y) : κ × Val).1 = k from e)]
      exact .cons a ih
theorem VRk.app {ws us : List (κ × V)} {es ds : List (κ × Val)} (r : VRk K fr H ms ws es) (r' : VRk K fr H ms us ds) : VRk K fr H ms (ws ++ us) (es ++ ds) := by
  induction r with
  | nil => exact r'
  | cons a b ih => exact .cons a ih
theorem VRk.put {ws : List (κ × V)} {es : List (κ × Val)} (r : VRk K fr H ms ws es) (k : κ) {v : V} {x : Val} (h : VR K fr H ms v x) : VRk K fr H ms (putK ws k v) (putS es k x) := by
  unfold putK putS
  rw [valV_any, valS_any, r.isSome]
  split
  · exact r.map_put k h
  · exact r.app (.cons h .nil)
end
def keyOf : Val → Option Key
  | .int i => some (.inl i)
  | .str x => some (.inr x)
  | _ => none
def keysOf : List Val → Option (List Key)
  | [] => some []
  | d :: r => (match keyOf d, keysOf r with
    | some k, some ks => some (k :: ks)
    | _, _ => none)
/-- a tuple as a key -/
def tkeyOf : Val → Option (List Key)
  | .tup ds => keysOf ds
  | _ => none
def keyV : Key → Val
  | .inl i => .int i
  | .inr x => .str x
section
variable {K : PySem.W.Frag} {fr : Addr → Prop} {H : Hp} {ms : List Addr} {st : Store}
theorem key_at {v : V} {x : Val} {k : Key} (r : VR K fr H ms v x) (h : keyOf x = some k) : v = kV k := by
  unfold keyOf at h
  split at h
  · cases h
    exact vr_int r
  · cases h
    exact vr_str r
  · cases h
theorem keys_at : ∀ {vs : List V} {ds : List Val} {ks : List Key}, VRs K fr H ms vs ds → keysOf ds = some ks → vs = ks.map kV
  | [], [], ks, .nil, h => by
    cases h
    rfl
  | v :: vs, d :: ds, ks, .cons a b, h => by
    unfold keysOf at h
    split at h
    · next k ks' h1 h2 =>
      cases h
      rw [List.map_cons, ← key_at a h1, ← keys_at b h2]
    · cases h
theorem VRs.zip {ks : List Key} : ∀ {ks : List Key} {ws : List V} {xs : List Val}, ks.length = ws.length → VRs K fr H ms ws xs → VRk K fr H ms (ks.zip ws) (ks.zip xs)
  | [], _, _, _, .nil => .nil
  | [], _, _, h, .cons _ _ => by simp at h
  | _ :: _, _, _, h, .nil => by simp at h
  | k :: ks, _, _, h, .cons a b => .cons a (VRs.zip (ks := ks) (by simpa using h) b)
/-- a dict's entries -/
def dictOf (st : Store) : Val → Option (List (Key × Val))
  | .ref p => dicAt st p
  | .rd ks xs => some (ks.zip xs)
  | _ => none
theorem dct_at {x : Val} {v : V} {es : List (Key × Val)} (s : SR K fr H ms st) (r : VR K fr H ms v x) (h : dictOf st x = some es) : ∃ a ws, v = .ref a ∧ H a = some (.dK ws) ∧ VRk K fr H ms ws es := by
  unfold dictOf at h
  split at h
  · obtain ⟨a, e, _, ws, hw, hr⟩ := s.at r (dicAt_eq h)
    exact ⟨a, ws, e, hw, hr⟩
  · cases h
    cases r with
    | rd h l f r => exact ⟨_, _, rfl, h, VRs.zip (ks := []) l r⟩
  · cases h
/-- what a dict holds at a key: none where it is no dict, no key -/
def dGet (st : Store) (x y : Val) : Option (Option Val) := match dictOf st x, keyOf y with
  | some es, some k => some (valS es k)
  | _, _ => none
theorem dget_at {x y : Val} {v u : V} {o : Option Val} (s : SR K fr H ms st) (rx : VR K fr H ms v x) (ry : VR K fr H ms u y) (h : dGet st x y = some o) :
    ∃ a w, v = .ref a ∧ DGet H a u w ∧ (∀ z, o = some z → ∃ r, w = some r ∧ VR K fr H ms r z) ∧ (o = none → w = none) := by
  unfold dGet at h
  split at h
  · next es k h1 h2 =>
    cases h
    obtain ⟨a, ws, rfl, hw, hr⟩ := dct_at s rx h1
    obtain rfl := key_at ry h2
    exact ⟨a, _, rfl, DGet.k hw, fun z e => hr.val k e, fun e => hr.noval k e⟩
  · cases h
end
section
variable {X : Cx}
def rIxDct : R2 := fun x y H Q => ∃ a v, x = .ref a ∧ DGet H a y (some v) ∧ Q v H
theorem ix_dct (hu : X.A.units + 1 < cLine) : IxR X rIxDct := by
  intro value slice pins s σ H x y v u Q I rx ry h hs
  obtain ⟨a, z, rfl, g, q⟩ := h
  obtain rfl : v = Value.ref a := rx
  exact tail_any (dict_typeIs I g) PySem.F.slot_dict_getitem.lookup (d_getItem hu I g ry fun w' s' I' rw' => ⟨z, H, I', rw', q⟩) hs
def rInDct : R2 := fun y x H Q => ∃ a o, x = .ref a ∧ DGet H a y o ∧ Q (.bl o.isSome) H
def rNinDct : R2 := fun y x H Q => ∃ a o, x = .ref a ∧ DGet H a y o ∧ Q (.bl (!o.isSome)) H
theorem op_inDct (hu : X.A.units + 1 < cLine) : OpR X (compareOp .In) rInDct := by
  intro pins s σ H y x u v Q I ry rx h
  obtain ⟨a, o, rfl, g, q⟩ := h
  obtain rfl : v = Value.ref a := rx
  exact d_in hu I g ry fun s' I' => ⟨.bl o.isSome, H, I', rfl, q⟩
theorem op_ninDct (hu : X.A.units + 1 < cLine) : OpR X (compareOp .NotIn) rNinDct := by
  intro pins s σ H y x u v Q I ry rx h
  obtain ⟨a, o, rfl, g, q⟩ := h
  obtain rfl : v = Value.ref a := rx
  exact d_notIn hu I g ry fun s' I' => ⟨.bl (!o.isSome), H, I', rfl, q⟩
def rSetDct : TSet := fun o i v H Q => ∃ a H', o = .ref a ∧ DPut H a i v H' ∧ Q H'
theorem set_dct (hu : X.A.units + 1 < cLine) : PSet X rSetDct := by
  intro pins s σ H x y v ov iv u Q I rx ry rv h
  obtain ⟨a, H', rfl, g, q⟩ := h
  obtain rfl : ov = Value.ref a := rx
  exact d_setItem hu I g ry rv fun s' I' => ⟨H', I', q⟩
theorem PSet.or {t t' : TSet} (h : PSet X t) (h' : PSet X t') : PSet X (fun o i v H Q => t o i v H Q ∨ t' o i v H Q) := by
  intro pins s σ H x y v ov iv u Q I rx ry rv q
  rcases q with q | q
  · exact h pins s σ H x y v ov iv u Q I rx ry rv q
  · exact h' pins s σ H x y v ov iv u Q I rx ry rv q
end
/-! ### in, not in: flat things in a list or tuple, keys of a dict -/
def flatF : Val → Option V
  | .non => some .non
  | .bl b => some (.bl b)
  | .int i => some (.int i)
  | .str x => some (.str x)
  | _ => none
def flatFs : List Val → Option (List V)
  | [] => some []
  | x :: r => (match flatF x, flatFs r with
    | some v, some vs => some (v :: vs)
    | _, _ => none)
theorem flat_vr {K : PySem.W.Frag} {fr : Addr → Prop} {H : Hp} {ms : List Addr} {d : Val} {v u : V} (h : flatF d = some u) (r : VR K fr H ms v d) : v = u ∧ flatV u = true := by
  cases r <;> first
    | (cases h; exact ⟨rfl, rfl⟩)
    | cases h
theorem flat_vrs {K : PySem.W.Frag} {fr : Addr → Prop} {H : Hp} {ms : List Addr} : ∀ {xs : List Val} {vs us : List V}, flatFs xs = some us → VRs K fr H ms vs xs → vs = us ∧ us.all flatV = true
  | [], _, _, h, .nil => by
    cases h
    exact ⟨rfl, rfl⟩
  | x :: r, _, _, h, .cons a b => by
    unfold flatFs at h
    split at h
    · next v vs h1 h2 =>
      cases h
      obtain ⟨e1, f1⟩ := flat_vr h1 a
      obtain ⟨e2, f2⟩ := flat_vrs h2 b
      exact ⟨by rw [e1, e2], by rw [List.all_cons, f1, f2]; rfl⟩
    · cases h
def inF (st : Store) (x y : Val) : Option Bool := match y with
  | .str z => (match x with
    | .str u => some (!(Builtin.Str.occurrences z u 0 z.length 1).isEmpty)
    | _ => none)
  | y => (match seqOf st y with
    | some ys => (match flatF x, flatFs ys with
      | some v, some vs => some (inV v vs)
      | _, _ => none)
    | none => (match dGet st y x with
      | some o => some o.isSome
      | none => none))
def fIn (neg : Bool) : F2 := fun x y st => match inF st x y with
  | some b => some (.bl (bif neg then !b else b), st)
  | none => none
def rInU (K : PySem.W.Frag) (neg : Bool) : R2 := fun x y H Q => (rIn K neg x y H Q ∨ (match neg with
  | true => rNinDct x y H Q
  | false => rInDct x y H Q)) ∨ ∃ i j, x = .str i ∧ y = .str j ∧ Q (.bl (bif neg then !(!(Builtin.Str.occurrences j i 0 j.length 1).isEmpty) else !(Builtin.Str.occurrences j i 0 j.length 1).isEmpty)) H
theorem op_inU {X : Cx} (hu : X.A.units + 1 < cLine) : OpR X (compareOp .In) (rInU X.K false) := (op_in_seq.or (op_inDct hu)).or op_in_str
theorem op_notInU {X : Cx} (hu : X.A.units + 1 < cLine) : OpR X (compareOp .NotIn) (rInU X.K true) := (op_notIn_seq.or (op_ninDct hu)).or op_notin_str
theorem r2_in {K : PySem.W.Frag} (neg : Bool) : R2F K (rInU K neg) (fIn neg) := fun fr H ms st x y sx sy z st' Q s rx ry h q => by
  unfold fIn at h
  split at h
  · next b hb =>
    cases h
    have qq := q.now s (.bl _)
    unfold inF at hb
    split at hb
    · split at hb
      · cases hb
        exact .inr ⟨_, _, vr_str rx, vr_str ry, qq⟩
      · cases hb
    · split at hb
      · next ys hy =>
        split at hb
        · next v vs h1 h2 =>
          cases hb
          obtain ⟨a, ws, rfl, hs, hr⟩ := seq_at s ry hy
          obtain ⟨e1, f1⟩ := flat_vr h1 rx
          obtain ⟨e2, f2⟩ := flat_vrs h2 hr
          subst e1 e2
          exact .inl (.inl ⟨a, _, rfl, hs, f1, f2, by cases neg <;> exact qq⟩)
        · cases hb
      · split at hb
        · next o ho =>
          cases hb
          obtain ⟨a, w, rfl, g, g1, g2⟩ := dget_at s ry rx ho
          have e : w.isSome = o.isSome := by
            cases o with
            | none => rw [g2 rfl]; rfl
            | some z =>
              obtain ⟨r, h1, _⟩ := g1 z rfl
              rw [h1]
              rfl
          refine .inl (.inr ?_)
          cases neg with
          | true => exact ⟨a, w, rfl, g, by rw [e]; exact qq⟩
          | false => exact ⟨a, w, rfl, g, by rw [e]; exact qq⟩
        · cases hb
  · cases h
/-- is None, is not None -/
def isN : Val → Bool
  | .non => true
  | _ => false
def fIsN (neg : Bool) : F2 := fun x y st => match y with
  | .non => some (.bl (bif neg then !isN x else isN x), st)
  | _ => none
theorem isN_vr {K : PySem.W.Frag} {fr : Addr → Prop} {H : Hp} {ms : List Addr} {x : Val} {v : V} (r : VR K fr H ms v x) : decide (v = .non) = isN x := by
  cases r <;> rfl
theorem r2_isN {K : PySem.W.Frag} : R2F K (fun x y H Q => y = .non ∧ Q (.bl (decide (x = .non))) H) (fIsN false) := fun fr H ms st x y sx sy z st' Q s rx ry h q => by
  unfold fIsN at h
  split at h
  · cases h
    exact ⟨vr_non ry, q.now s (by rw [isN_vr rx]; exact .bl _)⟩
  · cases h
theorem r2_notN {K : PySem.W.Frag} : R2F K (fun x y H Q => y = .non ∧ Q (.bl (!decide (x = .non))) H) (fIsN true) := fun fr H ms st x y sx sy z st' Q s rx ry h q => by
  unfold fIsN at h
  split at h
  · cases h
    exact ⟨vr_non ry, q.now s (by rw [isN_vr rx]; exact .bl _)⟩
  · cases h
/-! ### x[i], x[a:b] -/
def ixF (st : Store) (x y : Val) : Option Val := match x, y with
  | .str z, .int i => bif Nat.ble z.length sizeLine then (match atI z.cps.toList i with
    | some c => some (.str ⟨#[c]⟩)
    | none => none) else none
  | x, y => (match seqOf st x with
    | some xs => (match y with
      | .int i => atI xs i
      | _ => none)
    | none => (match dGet st x y with
      | some (some z) => some z
      | _ => none))
def fIx : F2 := fun x y st => match ixF st x y with
  | some z => some (z, st)
  | none => none
theorem vrs_atI {K : PySem.W.Frag} {fr : Addr → Prop} {H : Hp} {ms : List Addr} {vs : List V} {xs : List Val} {i : Int} {x : Val} (r : VRs K fr H ms vs xs) (h : atI xs i = some x) : ∃ v, atI vs i = some v ∧ VR K fr H ms v x := by
  have h' : ((ixN xs.length i).bind fun j => xs[j]?) = some x := h
  show ∃ v, ((ixN vs.length i).bind fun j => vs[j]?) = some v ∧ _
  rw [r.length]
  cases e : ixN xs.length i with
  | none =>
    rw [e] at h'
    cases h'
  | some j =>
    rw [e] at h'
    exact r.get h'
def rIxU (K : PySem.W.Frag) : R2 := fun x y H Q => rIx K x y H Q ∨ rIxDct x y H Q
theorem r2_ix {K : PySem.W.Frag} : R2F K (rIxU K) fIx := fun fr H ms st x y sx sy z st' Q s rx ry h q => by
  unfold fIx at h
  split at h
  · next u hu =>
    cases h
    unfold ixF at hu
    split at hu
    · obtain ⟨hb, hu⟩ := cond_some hu
      split at hu
      · next c hc =>
        cases hu
        exact .inl (.inr (.inr ⟨_, _, c, vr_str rx, vr_int ry, Nat.le_of_ble_eq_true hb, hc, q.now s (.str _)⟩))
      · cases hu
    · split at hu
      · next xs hx =>
        split at hu
        · obtain ⟨a, ws, rfl, hs, hr⟩ := seq_at s rx hx
          obtain ⟨v, hv, rv⟩ := vrs_atI hr hu
          rcases hs with hs | hs
          · exact .inl (.inl ⟨a, ws, _, v, rfl, vr_int ry, hs, hv, q.now s rv⟩)
          · exact .inl (.inr (.inl ⟨a, ws, _, v, rfl, vr_int ry, hs, hv, q.now s rv⟩))
        · cases hu
      · split at hu
        · next z hz =>
          cases hu
          obtain ⟨a, w, rfl, g, g1, _⟩ := dget_at s rx ry hz
          obtain ⟨r, rfl, rr⟩ := g1 _ rfl
          exact .inr ⟨a, r, rfl, g, q.now s rr⟩
        · cases hu
  · cases h
section
variable {X : Cx} {W : WX} {pos : Pos} {a b c : Expr} {ta tb tc : FE}
theorem d_ix (hu : X.A.units + 1 < cLine) (ha : DE X W a ta) (hb : DE X W b tb) (hs : PlainIx b := by exact fun _ _ => rfl) : DE X W (.Subscript a b pos) (eOp fIx ta tb) := pe_imp (pe_ix (ix_seq.or (ix_dct hu)) ha hb hs) fun _ _ _ => le_op r2_ix
theorem d_add (c : Bool) (ha : DE X W a ta) (hb : DE X W b tb) : DE X W (.BinOp a .Add b pos) (eOp (fAdd c) ta tb) := d_op op_addU (r2_add c) ha hb
theorem d_sub (ha : DE X W a ta) (hb : DE X W b tb) : DE X W (.BinOp a .Sub b pos) (eOp fSub ta tb) := d_op op_sub r2_sub ha hb
theorem d_mul (c : Bool) (ha : DE X W a ta) (hb : DE X W b tb) : DE X W (.BinOp a .Mult b pos) (eOp (fMul c) ta tb) := d_op op_mulU (r2_mul c) ha hb
theorem d_div (ha : DE X W a ta) (hb : DE X W b tb) : DE X W (.BinOp a .FloorDiv b pos) (eOp fDiv ta tb) := d_op op_fdivW r2_div ha hb
theorem d_mod (ha : DE X W a ta) (hb : DE X W b tb) : DE X W (.BinOp a .Mod b pos) (eOp fMod ta tb) := d_op op_mod r2_mod ha hb
theorem d_pow (ha : DE X W a ta) (hb : DE X W b tb) : DE X W (.BinOp a .Pow b pos) (eOp fPow ta tb) := d_op op_pow r2_pow ha hb
def fNeg : F1 := fun x st => match x with
  | .int i => some (.int (-i), st)
  | _ => none
theorem d_neg (ha : DE X W a ta) : DE X W (.UnaryOp .USub a pos) (eUn fNeg ta) := d_un un_neg (fun fr H ms st x sx z st' Q s rx h q => by
  unfold fNeg at h
  split at h
  · cases h
    exact ⟨_, vr_int rx, q.now s (.int _)⟩
  · cases h) ha
end
/-! slices -/
def cutL (xs : List Val) (lo hi : Option Int) : List Val := (xs.drop (HT.sIx xs.length 0 lo)).take (HT.sIx xs.length xs.length hi - HT.sIx xs.length 0 lo)
theorem vrs_cut {K : PySem.W.Frag} {fr : Addr → Prop} {H : Hp} {ms : List Addr} {vs : List V} {xs : List Val} (r : VRs K fr H ms vs xs) (lo hi : Option Int) : VRs K fr H ms (cutV vs lo hi) (cutL xs lo hi) := by
  unfold cutV cutL
  rw [r.length]
  exact (r.off _).cut _
def oNo : FO := fun _ st => .ok none st
def oAt (te : FE) : FO := fun ρ st => (te ρ st).bind fun x st1 => match x with
  | .int i => .ok (some i) st1
  | _ => .bad
theorem o_none {X : Cx} {W : WX} : DO X W none oNo := po_imp po_none fun σ H Q ⟨fr, ms, ρ, st, w, g⟩ => g.now w.sr
theorem o_some {X : Cx} {W : WX} {e : Expr} {te : FE} (he : DE X W e te) : DO X W (some e) (oAt te) := po_imp (po_some he) fun σ H Q ⟨fr, ms, ρ, st, w, g⟩ =>
  ⟨fr, ms, ρ, st, w, g.bind.mono fun x st1 fr1 H1 ms1 _ _ ⟨e1, s1, g1⟩ v rv => by
    split at g1
    · exact ⟨_, vr_int rv, g1.now s1⟩
    · exact g1.elim⟩
def slF (c : Bool) (x : Val) (l h : Option Int) (st : Store) : OV := match x with
  | .tup xs => some (.tup (cutL xs l h), st)
  | .str z => bif Nat.ble z.length sizeLine then some (.str (cutS z l h), st) else none
  | x => (match lstOf st x with
    | some xs => some (newL c (cutL xs l h) st)
    | none => none)
/-- x[lo:hi] -/
def eSl (c : Bool) (te : FE) (lo hi : FO) : FE := fun ρ st => (te ρ st).bind fun x st1 => (lo ρ st1).bind fun l st2 => (hi ρ st2).bind fun h st3 => R.opt (slF c x l h st3)
def rSlU (K : PySem.W.Frag) : V → Option Int → Option Int → Hp → VK → Prop := fun x lo hi H Q => (rSlL K x lo hi H Q ∨ rSlA K x lo hi H Q) ∨ rSlS x lo hi H Q
theorem cut_all {xs : List Val} {lo hi : Option Int} (h : HT.sIx xs.length 0 lo = 0 ∧ HT.sIx xs.length xs.length hi = xs.length) : cutL xs lo hi = xs := by
  unfold cutL
  rw [h.1, h.2, List.drop_zero, Nat.sub_zero, List.take_length]
theorem newl_out {c : Bool} {xs : List Val} {st st' : Store} {z : Val} (h : some (newL c xs st) = some (z, st')) : (newL c xs st).1 = z ∧ (newL c xs st).2 = st' := ⟨congrArg Prod.fst (Option.some.inj h), congrArg Prod.snd (Option.some.inj h)⟩
theorem d_sl (c : Bool) {X : Cx} {W : WX} {e : Expr} {lo hi : Option Expr} {te : FE} {tl th : FO} {p2 pos : Pos} (he : DE X W e te) (hl : DO X W lo tl) (hh : DO X W hi th) : DE X W (.Subscript e (.Slice lo hi none p2) pos) (eSl c te tl th) :=
  pe_imp (pe_slice ((sl_list.or sl_tupA).or sl_str) he hl hh) fun σ H Q ⟨fr, ms, ρ, st, w, g⟩ => by
    refine ⟨fr, ms, ρ, st, w, g.bind.mono fun x st1 fr1 H1 ms1 _ _ ⟨e1, s1, g1⟩ v rv => ?_⟩
    have w1 := w.on e1 s1
    refine ⟨fr1, ms1, ρ, st1, w1, g1.bind.mono fun l st2 fr2 H2 ms2 _ _ ⟨e2, s2, g2⟩ => ?_⟩
    refine ⟨fr2, ms2, ρ, st2, w1.on e2 s2, g2.bind.mono fun u st3 fr3 H3 ms3 _ _ ⟨e3, s3, g3⟩ => ?_⟩
    have r3 := rv.ex s1 (e2.then e3)
    obtain ⟨z, st4, hz, q⟩ := g3.opt
    unfold slF at hz
    split at hz
    · next xs =>
      cases hz
      obtain ⟨a, ws, rfl, h1, h2⟩ := vr_tup r3
      have hc := vrs_cut h2 l u
      refine .inl (.inr ⟨a, ws, rfl, h1, fun c => ?_, fun c p n => q.tup s3 hc n⟩)
      rw [h2.length] at c
      rw [cut_all c] at q
      exact q.now s3 (.tup h1 h2)
    · obtain ⟨hb, hz⟩ := cond_some hz
      cases hz
      exact .inr ⟨_, vr_str r3, Nat.le_of_ble_eq_true hb, q.now s3 (.str _)⟩
    · split at hz
      · next xs hx =>
        obtain ⟨e5, e6⟩ := newl_out hz
        rw [← e5, ← e6] at q
        obtain ⟨a, ws, rfl, hs, hr⟩ := lst_at s3 r3 hx
        exact .inl (.inl ⟨a, ws, rfl, hs, fun p n => q.newl s3 (vrs_cut hr l u) n⟩)
      · cases hz
/-! ### anything as a test -/
def truF (st : Store) : Val → Option Bool
  | .non => some false
  | .bl b => some b
  | .int i => some (i != 0)
  | .str z => bif Nat.ble z.length sizeLine then some ((z.length : Int) != 0) else none
  | x => (match seqOf st x with
    | some xs => some (!xs.isEmpty)
    | none => (match dictOf st x with
      | some es => some (!es.isEmpty)
      | none => none))
def tTru (t : FE) : FT := fun ρ st => (t ρ st).bind fun x st1 => match truF st1 x with
  | some b => .ok b st1
  | none => .bad
theorem tru_at {K : PySem.W.Frag} {fr : Addr → Prop} {H : Hp} {ms : List Addr} {st : Store} {x : Val} {v : V} {b : Bool} (s : SR K fr H ms st) (r : VR K fr H ms v x) (h : truF st x = some b) : TruV K v H b := by
  unfold truF at h
  split at h
  · cases h; cases r; rfl
  · cases h; cases r; rfl
  · cases h; cases r; rfl
  · obtain ⟨hb, h⟩ := cond_some h
    cases h
    cases r
    exact ⟨Nat.le_of_ble_eq_true hb, rfl⟩
  · split at h
    · next xs hx =>
      cases h
      obtain ⟨a, ws, rfl, hs, hr⟩ := seq_at s r hx
      have e : (!xs.isEmpty) = !ws.isEmpty := by cases hr <;> rfl
      rw [e]
      rcases hs with hs | hs
      · exact .inl ⟨ws, hs, rfl⟩
      · exact .inr (.inl ⟨ws, hs, rfl⟩)
    · split at h
      · next es he =>
        cases h
        obtain ⟨a, ws, rfl, hs, hr⟩ := dct_at s r he
        have e : (!es.isEmpty) = !ws.isEmpty := by cases hr <;> rfl
        rw [e]
        exact .inr (.inr ⟨ws, hs, rfl⟩)
      · cases h
end FL
namespace FL
open PySem PySem.Spec PyProof.Rows L2
theorem t_tru {X : Cx} {W : WX} {a : Expr} {t : FE} (ha : DE X W a t) (he : ∀ whole, isTrue a X.env whole = (do let v ← whole; standAt a.pos; holding [v] (truthy v)) := by intro _; rfl) : DT X W a (tTru t) :=
  pt_imp (pt_truth ha he) fun σ H Q ⟨fr, ms, ρ, st, w, g⟩ => ⟨fr, ms, ρ, st, w, g.bind.mono fun x st1 fr1 H1 ms1 _ _ ⟨e1, s1, g1⟩ v rv => by
    cases hb : truF st1 x with
    | none =>
      rw [hb] at g1
      exact g1.elim
    | some b =>
      rw [hb] at g1
      exact ⟨b, tru_at s1 rv hb, g1.now s1⟩⟩
/-! ### what a def hands back -/
mutual
/-- all cells that it speaks of lie below n -/
def below (n : Nat) : Val → Bool
  | .ref p => Nat.blt p n
  | .tup xs => belows n xs
  | .ro xs => belows n xs
  | .wr xs => belows n xs
  | .rd _ xs => belows n xs
  | .ex1 _ _ x => below n x
  | _ => true
def belows (n : Nat) : List Val → Bool
  | [] => true
  | x :: xs => below n x && belows n xs
end
def cellBelow (n : Nat) : Cell → Bool
  | .lst xs => belows n xs
  | .dic es => belows n (es.map (·.2))
  | .dit es => belows n (es.map (·.2))
  | .ins _ fs => belows n (fs.map (·.2))
/-- a store whose cells speak of cells of it alone -/
def closed (n : Nat) (st : Store) : Bool := st.all (cellBelow n)
mutual
/-- a thing with its new lists and dicts frozen -/
def frzV (lk : Nat → Option Val) : Val → Option Val
  | .ref p => lk p
  | .tup xs => (match frzVs lk xs with
    | some ys => some (.tup ys)
    | none => none)
  | .ro xs => (match frzVs lk xs with
    | some ys => some (.ro ys)
    | none => none)
  | .wr xs => (match frzVs lk xs with
    | some ys => some (.wr ys)
    | none => none)
  | .rd ks xs => (match frzVs lk xs with
    | some ys => some (.rd ks ys)
    | none => none)
  | .ex1 C f x => (match frzV lk x with
    | some y => some (.ex1 C f y)
    | none => none)
  | x => some x
def frzVs (lk : Nat → Option Val) : List Val → Option (List Val)
  | [] => some []
  | x :: xs => (match frzV lk x, frzVs lk xs with
    | some y, some ys => some (y :: ys)
    | _, _ => none)
end
def frzN (n : Nat) (st : Store) : Nat → Nat → Option Val
  | 0, p => bif Nat.blt p n then some (.ref p) else none
  | m + 1, p => bif Nat.blt p n then some (.ref p) else (match st[p]? with
    | some (.lst xs) => (match frzVs (frzN n st m) xs with
      | some ys => some (.ro ys)
      | none => none)
    | some (.dic es) => (match frzVs (frzN n st m) (es.map (·.2)) with
      | some ys => some (.rd (es.map (·.1)) ys)
      | none => none)
    | _ => none)
def frz (n : Nat) (st : Store) (x : Val) : Option Val := frzV (frzN n st deepN) x
mutual
def eqVal : Val → Val → Bool
  | .non, y => (match y with | .non => true | _ => false)
  | .bl a, y => (match y with | .bl b => a == b | _ => false)
  | .int a, y => (match y with | .int b => decide (a = b) | _ => false)
  | .str a, y => (match y with | .str b => decide (a = b) | _ => false)
  | .tup xs, y => (match y with | .tup ys => eqVals xs ys | _ => false)
  | .ro xs, y => (match y with | .ro ys => eqVals xs ys | _ => false)
  | .wr xs, y => (match y with | .wr ys => eqVals xs ys | _ => false)
  | .rd ks xs, y => (match y with | .rd ls ys => decide (ks = ls) && eqVals xs ys | _ => false)
  | .ref n, y => (match y with | .ref m => decide (n = m) | _ => false)
  | .ty n, y => (match y with | .ty m => decide (n = m) | _ => false)
  | .gl n, y => (match y with | .gl m => decide (n = m) | _ => false)
  | .ex0 n, y => (match y with | .ex0 m => decide (n = m) | _ => false)
  | .ex1 n f x, y => (match y with | .ex1 m g z => decide (n = m) && decide (f = g) && eqVal x z | _ => false)
def eqVals : List Val → List Val → Bool
  | [], ys => ys.isEmpty
  | x :: xs, ys => (match ys with | y :: ys => eqVal x y && eqVals xs ys | [] => false)
end
mutual
theorem eqVal_eq : ∀ {x y : Val}, eqVal x y = true → x = y
  | .non, y, h => by unfold eqVal at h; split at h <;> first | rfl | cases h
  | .bl a, y, h => by unfold eqVal at h; split at h <;> first | (rw [eq_of_beq h]) | cases h
  | .int a, y, h => by unfold eqVal at h; split at h <;> first | (rw [of_decide_eq_true h]) | cases h
  | .str a, y, h => by unfold eqVal at h; split at h <;> first | (rw [of_decide_eq_true h]) | cases h
  | .tup xs, y, h => by unfold eqVal at h; split at h <;> first | (rw [eqVals_eq h]) | cases h
  | .ro xs, y, h => by unfold eqVal at h; split at h <;> first | (rw [eqVals_eq h]) | cases h
  | .wr xs, y, h => by unfold eqVal at h; split at h <;> first | (rw [eqVals_eq h]) | cases h
  | .rd ks xs, y, h => by
    unfold eqVal at h; split at h
    · obtain ⟨h1, h2⟩ := Bool.and_eq_true_iff.mp h
      rw [of_decide_eq_true h1, eqVals_eq h2]
    · cases h
  | .ref n, y, h => by unfold eqVal at h; split at h <;> first | (rw [of_decide_eq_true h]) | cases h
  | .ty n, y, h => by unfold eqVal at h; split at h <;> first | (rw [of_decide_eq_true h]) | cases h
  | .gl n, y, h => by unfold eqVal at h; split at h <;> first | (rw [of_decide_eq_true h]) | cases h
  | .ex0 n, y, h => by unfold eqVal at h; split at h <;> first | (rw [of_decide_eq_true h]) | cases h
  | .ex1 n f x, y, h => by
    unfold eqVal at h; split at h
    · obtain ⟨h1, h2⟩ := Bool.and_eq_true_iff.mp h
      obtain ⟨h3, h4⟩ := Bool.and_eq_true_iff.mp h1
      rw [of_decide_eq_true h3, of_decide_eq_true h4, eqVal_eq h2]
    · cases h
theorem eqVals_eq : ∀ {xs ys : List Val}, eqVals xs ys = true → xs = ys
  | [], ys, h => by
    unfold eqVals at h
    cases ys with
    | nil => rfl
    | cons _ _ => cases h
  | x :: xs, ys, h => by
    unfold eqVals at h
    split at h
    · obtain ⟨h1, h2⟩ := Bool.and_eq_true_iff.mp h
      rw [eqVal_eq h1, eqVals_eq h2]
    · cases h
end
mutual
theorem eqVal_refl : ∀ x : Val, eqVal x x = true
  | .non => rfl
  | .bl a => by simp [eqVal]
  | .int a => by simp [eqVal]
  | .str a => by simp [eqVal]
  | .tup xs => eqVals_refl xs
  | .ro xs => eqVals_refl xs
  | .wr xs => eqVals_refl xs
  | .rd ks xs => by simp [eqVal, eqVals_refl xs]
  | .ref n => by simp [eqVal]
  | .ty n => by simp [eqVal]
  | .gl n => by simp [eqVal]
  | .ex0 n => by simp [eqVal]
  | .ex1 n f x => by simp [eqVal, eqVal_refl x]
theorem eqVals_refl : ∀ xs : List Val, eqVals xs xs = true
  | [] => rfl
  | x :: xs => by simp [eqVals, eqVal_refl x, eqVals_refl xs]
end
def eqPairs {κ : Type} [DecidableEq κ] (xs ys : List (κ × Val)) : Bool := decide (xs.map (·.1) = ys.map (·.1)) && eqVals (xs.map (·.2)) (ys.map (·.2))
theorem eqPairs_eq {κ : Type} [DecidableEq κ] : ∀ {xs ys : List (κ × Val)}, eqPairs xs ys = true → xs = ys
  | [], [], _ => rfl
  | [], y :: ys, h => by simp [eqPairs, eqVals] at h
  | x :: xs, [], h => by simp [eqPairs, eqVals] at h
  | (k, x) :: xs, (l, y) :: ys, h => by
    unfold eqPairs at h
    obtain ⟨h1, h2⟩ := Bool.and_eq_true_iff.mp h
    have h1 := of_decide_eq_true h1
    rw [List.map_cons, List.map_cons] at h1 h2
    obtain ⟨e1, e2⟩ := List.cons.inj h1
    have e3 := eqVals_eq h2
    obtain ⟨e4, e5⟩ := List.cons.inj e3
    have r := eqPairs_eq (xs := xs) (ys := ys) (by unfold eqPairs; rw [decide_eq_true e2, e5, eqVals_refl]; rfl)
    have e1' : k = l := e1
    have e4' : x = y := e4
    rw [e1', e4', r]
theorem eqPairs_refl {κ : Type} [DecidableEq κ] (xs : List (κ × Val)) : eqPairs xs xs = true := by
  unfold eqPairs
  rw [eqVals_refl, decide_eq_true rfl]
  rfl
def eqCell : Cell → Cell → Bool
  | .lst xs, y => (match y with | .lst ys => eqVals xs ys | _ => false)
  | .dic es, y => (match y with | .dic fs => eqPairs es fs | _ => false)
  | .dit es, y => (match y with | .dit fs => eqPairs es fs | _ => false)
  | .ins C es, y => (match y with | .ins D fs => decide (C = D) && eqPairs es fs | _ => false)
theorem eqCell_eq {x y : Cell} (h : eqCell x y = true) : x = y := by
  unfold eqCell at h
  split at h <;> split at h <;> first
    | (rw [eqVals_eq h]; done)
    | (rw [eqPairs_eq h]; done)
    | (obtain ⟨h1, h2⟩ := Bool.and_eq_true_iff.mp h; rw [of_decide_eq_true h1, eqPairs_eq h2]; done)
    | cases h
theorem eqCell_refl (x : Cell) : eqCell x x = true := by
  cases x <;> simp [eqCell, eqVals_refl, eqPairs_refl]
def eqStore : Store → Store → Bool
  | [], ys => ys.isEmpty
  | x :: xs, ys => (match ys with | y :: ys => eqCell x y && eqStore xs ys | [] => false)
theorem eqStore_eq : ∀ {xs ys : Store}, eqStore xs ys = true → xs = ys
  | [], ys, h => by
    unfold eqStore at h
    cases ys with
    | nil => rfl
    | cons _ _ => cases h
  | x :: xs, ys, h => by
    unfold eqStore at h
    split at h
    · obtain ⟨h1, h2⟩ := Bool.and_eq_true_iff.mp h
      rw [eqCell_eq h1, eqStore_eq h2]
    · cases h
theorem eqStore_refl : ∀ xs : Store, eqStore xs xs = true
  | [] => rfl
  | x :: xs => by simp [eqStore, eqCell_refl x, eqStore_refl xs]
/-- what is left of the store that a def began with -/
def leftB (st0 st : Store) : Bool := eqStore (st.take st0.length) st0 || closed st0.length (st.take st0.length)
theorem leftB_same {st0 st : Store} (h : st.take st0.length = st0) : leftB st0 st = true := by
  unfold leftB
  rw [h, eqStore_refl]
  rfl
/-- the end of a def: what was made within is given up, where that can be -/
def retV (st0 : Store) (x : Val) (st : Store) : Val × Store := match frz st0.length st x with
  | some y => bif leftB st0 st then (y, st.take st0.length) else (x, st)
  | none => (x, st)
def retX (st0 : Store) (x : XV) (st : Store) : XV × Store := match x with
  | (c, none) => bif leftB st0 st then ((c, none), st.take st0.length) else ((c, none), st)
  | (c, some (f, v)) => (match frz st0.length st v with
    | some y => bif leftB st0 st then ((c, some (f, y)), st.take st0.length) else ((c, some (f, v)), st)
    | none => ((c, some (f, v)), st))
def retF (z : Bool) (st0 : Store) (r : S) : R Val := match r with
  | .rt x st => bif z then .ok (retV st0 x st).1 (retV st0 x st).2 else .ok x st
  | .nx _ st => bif z then .ok (retV st0 .non st).1 (retV st0 .non st).2 else .ok .non st
  | .ex x _ st => bif z then .exc (retX st0 x st).1 (retX st0 x st).2 else .exc x st
  | _ => .bad
section
variable {K : PySem.W.Frag} {fr fr0 : Addr → Prop} {H H0 : Hp} {ms ms0 : List Addr} {st : Store} {n : Nat}
/-- what is frozen when a def gives up what it made -/
def frF (fr : Addr → Prop) (ms : List Addr) (n : Nat) : Addr → Prop := fun a => fr a ∨ a ∈ ms.drop n
mutual
theorem VR.blw : ∀ {x : Val} {v : V}, below n x = true → VR K fr H ms v x → VR K (frF fr ms n) H (ms.take n) v x
  | .non, _, _, r => by cases r; exact .non
  | .bl b, _, _, r => by cases r; exact .bl b
  | .int i, _, _, r => by cases r; exact .int i
  | .str z, _, _, r => by cases r; exact .str z
  | .ty z, _, _, r => by cases r; exact .ty z
  | .gl a, _, _, r => by cases r; exact .gl a
  | .ex0 a, _, _, r => by
    cases r with
    | ex0 h => exact .ex0 h
  | .ex1 a f x, _, h, r => by
    cases r with
    | ex1 h1 h2 r => exact .ex1 h1 h2 (VR.blw (by simpa [FL.below] using h) r)
  | .ref p, _, h, r => by
    cases r with
    | ref e =>
      have hp : p < n := by simpa [FL.below] using h
      exact .ref (by rw [List.getElem?_take, if_pos hp]; exact e)
  | .tup xs, _, h, r => by
    cases r with
    | tup a b => exact .tup a (VRs.blws (by simpa [FL.below] using h) b)
  | .ro xs, _, h, r => by
    cases r with
    | ro a f b => exact .ro a (.inl f) (VRs.blws (by simpa [FL.below] using h) b)
  | .wr xs, _, h, r => by
    cases r with
    | wr a b => exact .wr a (VRs.blws (by simpa [FL.below] using h) b)
  | .rd ks xs, _, h, r => by
    cases r with
    | rd a l f b => exact .rd a l (.inl f) (VRs.blws (by simpa [FL.below] using h) b)
theorem VRs.blws : ∀ {xs : List Val} {vs : List V}, belows n xs = true → VRs K fr H ms vs xs → VRs K (frF fr ms n) H (ms.take n) vs xs
  | [], _, _, r => by cases r; exact .nil
  | x :: xs, _, h, r => by
    cases r with
    | cons a b =>
      have h' := Bool.and_eq_true_iff.mp (show (FL.below n x && FL.belows n xs) = true by simpa [FL.belows] using h)
      exact .cons (VR.blw h'.1 a) (VRs.blws h'.2 b)
end
theorem VRk.blws {κ : Type} : ∀ {es : List (κ × Val)} {ws : List (κ × V)}, FL.belows n (es.map (·.2)) = true → VRk K fr H ms ws es → VRk K (frF fr ms n) H (ms.take n) ws es
  | _, _, _, .nil => .nil
  | (_, x) :: xs, _, h, .cons a b => by
    have h' := Bool.and_eq_true_iff.mp (show (FL.below n x && FL.belows n (xs.map (·.2))) = true by simpa [FL.belows] using h)
    exact .cons (VR.blw h'.1 a) (VRk.blws h'.2 b)
theorem CR.blw {p : Addr} : ∀ {c : Cell}, cellBelow n c = true → CR K fr H ms p c → CR K (frF fr ms n) H (ms.take n) p c
  | .lst _, h, ⟨ws, a, b⟩ => ⟨ws, a, VRs.blws h b⟩
  | .dic _, h, ⟨ws, a, b⟩ => ⟨ws, a, VRk.blws h b⟩
  | .dit _, h, ⟨ws, a, b⟩ => ⟨ws, a, VRk.blws h b⟩
  | .ins _ _, h, ⟨dx, ws, a, d, b⟩ => ⟨dx, ws, a, d, VRk.blws h b⟩
theorem VRk.vals : ∀ {es : List (Key × Val)} {ws : List (Key × V)}, VRk K fr H ms ws es → VRs K fr H ms (ws.map (·.2)) (es.map (·.2))
  | _, _, .nil => .nil
  | _, _, .cons a b => .cons a (VRk.vals b)
theorem zip_fst_snd {α β : Type} : ∀ l : List (α × β), (l.map (·.1)).zip (l.map (·.2)) = l
  | [] => rfl
  | p :: r => by
    rw [List.map_cons, List.map_cons, List.zip_cons_cons, zip_fst_snd r]
def FkOk (K : PySem.W.Frag) (fr : Addr → Prop) (H : Hp) (ms : List Addr) (n : Nat) (lk : Nat → Option Val) : Prop := ∀ p y v, lk p = some y → VR K fr H ms v (.ref p) → VR K (frF fr ms n) H (ms.take n) v y
mutual
theorem frzV_at {lk : Nat → Option Val} (s : FkOk K fr H ms n lk) : ∀ {x y : Val} {v : V}, frzV lk x = some y → VR K fr H ms v x → VR K (frF fr ms n) H (ms.take n) v y
  | .ref p, y, v, h, r => by unfold frzV at h; exact s p _ _ h r
  | .tup xs, _, _, h, r => by
    unfold frzV at h
    split at h
    · next ys hy =>
      cases h
      cases r with
      | tup a b => exact .tup a (frzVs_at s hy b)
    · cases h
  | .ro xs, _, _, h, r => by
    unfold frzV at h
    split at h
    · next ys hy =>
      cases h
      cases r with
      | ro a f b => exact .ro a (.inl f) (frzVs_at s hy b)
    · cases h
  | .wr xs, _, _, h, r => by
    unfold frzV at h
    split at h
    · next ys hy =>
      cases h
      cases r with
      | wr a b => exact .wr a (frzVs_at s hy b)
    · cases h
  | .rd ks xs, _, _, h, r => by
    unfold frzV at h
    split at h
    · next ys hy =>
      cases h
      cases r with
      | rd a l f b => exact .rd a l (.inl f) (frzVs_at s hy b)
    · cases h
  | .ex1 C f x, _, _, h, r => by
    unfold frzV at h
    split at h
    · next y hy =>
      cases h
      cases r with
      | ex1 a l r => exact .ex1 a l (frzV_at s hy r)
    · cases h
  | .ex0 C, _, _, h, r => by
    unfold frzV at h
    cases h
    cases r with
    | ex0 a => exact .ex0 a
  | .non, _, _, h, r => by unfold frzV at h; cases h; cases r; exact .non
  | .bl b, _, _, h, r => by unfold frzV at h; cases h; cases r; exact .bl b
  | .int i, _, _, h, r => by unfold frzV at h; cases h; cases r; exact .int i
  | .str z, _, _, h, r => by unfold frzV at h; cases h; cases r; exact .str z
  | .ty z, _, _, h, r => by unfold frzV at h; cases h; cases r; exact .ty z
  | .gl z, _, _, h, r => by unfold frzV at h; cases h; cases r; exact .gl z
theorem frzVs_at {lk : Nat → Option Val} (s : FkOk K fr H ms n lk) : ∀ {xs ys : List Val} {vs : List V}, frzVs lk xs = some ys → VRs K fr H ms vs xs → VRs K (frF fr ms n) H (ms.take n) vs ys
  | [], _, _, h, r => by unfold frzVs at h; cases h; cases r; exact .nil
  | x :: xs, _, _, h, r => by
    unfold frzVs at h
    split at h
    · next d ds h1 h2 =>
      cases h
      cases r with
      | cons a b => exact .cons (frzV_at s h1 a) (frzVs_at s h2 b)
    · cases h
end
theorem frzN_low {p : Nat} {y : Val} {v : V} (hb : Nat.blt p n = true) (h : some (Val.ref p) = some y) (r : VR K fr H ms v (.ref p)) : VR K (frF fr ms n) H (ms.take n) v y := by
  cases h
  obtain ⟨a, rfl, hm⟩ := vr_ref r
  exact .ref (by rw [List.getElem?_take, if_pos (show p < n from Nat.le_of_ble_eq_true hb)]; exact hm)
theorem frzN_ok (s : SR K fr H ms st) (hn : n ≤ ms.length) : ∀ m : Nat, FkOk K fr H ms n (frzN n st m)
  | 0 => fun p y v h r => by
    unfold frzN at h
    cases hb : Nat.blt p n with
    | true =>
      rw [hb] at h
      exact frzN_low hb h r
    | false =>
      rw [hb] at h
      cases h
  | m + 1 => fun p y v h r => by
    unfold frzN at h
    cases hb : Nat.blt p n with
    | true =>
      rw [hb] at h
      exact frzN_low hb h r
    | false =>
      rw [hb] at h
      obtain ⟨a, rfl, hm⟩ := vr_ref r
      have hp : n ≤ p := Nat.le_of_not_lt fun z => by
        have : Nat.blt p n = true := Nat.ble_eq_true_of_le z
        rw [hb] at this
        cases this
      have hd : a ∈ ms.drop n := by
        refine List.mem_of_getElem? (i := p - n) ?_
        rw [List.getElem?_drop, Nat.add_sub_cancel' hp]
        exact hm
      dsimp only [cond_false] at h
      split at h
      · next xs hc =>
        split at h
        · next ys hy =>
          cases h
          obtain ⟨ws, h1, h2⟩ := s.cell p a _ hm hc
          exact .ro h1 (.inr hd) (frzVs_at (frzN_ok s hn m) hy h2)
        · cases h
      · next es hc =>
        split at h
        · next ys hy =>
          cases h
          obtain ⟨ws, h1, h2⟩ := s.cell p a _ hm hc
          refine .rd (ws := ws.map (·.2)) ?_ ?_ (.inr hd) (frzVs_at (frzN_ok s hn m) hy h2.vals)
          · rw [← h2.keys, zip_fst_snd]
            exact h1
          · rw [List.length_map, List.length_map, h2.length]
        · cases h
      · cases h
theorem frz_at (s : SR K fr H ms st) (hn : n ≤ ms.length) {x y : Val} {v : V} (h : frz n st x = some y) (r : VR K fr H ms v x) : VR K (frF fr ms n) H (ms.take n) v y := frzV_at (frzN_ok s hn _) h r
mutual
theorem VR.low : ∀ {v : V} {x : Val}, VR K fr H ms v x → FL.below ms.length x = true
  | _, _, .non => rfl
  | _, _, .bl b => rfl
  | _, _, .int i => rfl
  | _, _, .str x => rfl
  | _, _, .tup h r => VRs.lows r
  | _, _, .ro h f r => VRs.lows r
  | _, _, .wr h r => VRs.lows r
  | _, _, .rd h l f r => VRs.lows r
  | _, _, .ref h => Nat.ble_eq_true_of_le (List.getElem?_eq_some_iff.mp h).1
  | _, _, .ty n => rfl
  | _, _, .gl a => rfl
  | _, _, .ex0 h => rfl
  | _, _, .ex1 _ _ r => (VR.low r :)
theorem VRs.lows : ∀ {v : List V} {x : List Val}, VRs K fr H ms v x → FL.belows ms.length x = true
  | _, _, .nil => rfl
  | _, _, .cons a b => by
    show (FL.below ms.length _ && FL.belows ms.length _) = true
    rw [VR.low a, VRs.lows b]
    rfl
end
theorem VRk.lows {κ : Type} : ∀ {es : List (κ × Val)} {ws : List (κ × V)}, VRk K fr H ms ws es → FL.belows ms.length (es.map (·.2)) = true
  | _, _, .nil => rfl
  | _, _, .cons a b => by
    show (FL.below ms.length _ && FL.belows ms.length _) = true
    rw [VR.low a, VRk.lows b]
    rfl
theorem CR.low {p : Addr} : ∀ {c : Cell}, CR K fr H ms p c → cellBelow ms.length c = true
  | .lst _, ⟨_, _, r⟩ => r.lows
  | .dic _, ⟨_, _, r⟩ => r.lows
  | .dit _, ⟨_, _, r⟩ => r.lows
  | .ins _ _, ⟨_, _, _, _, r⟩ => r.lows
theorem SR.allLow (s : SR K fr H ms st) : FL.closed st.length st = true := by
  refine List.all_eq_true.mpr fun c hc => ?_
  obtain ⟨i, hi, rfl⟩ := List.getElem_of_mem hc
  have hm : i < ms.length := by rw [s.len]; exact hi
  rw [← s.len]
  exact (s.cell i ms[i] st[i] (List.getElem?_eq_getElem hm) (List.getElem?_eq_getElem hi)).low
mutual
theorem VR.twice : ∀ {x : Val} {v : V}, VR K (frF (frF fr ms n) ms n) H (ms.take n) v x → VR K (frF fr ms n) H (ms.take n) v x
  | _, _, .non => .non
  | _, _, .bl b => .bl b
  | _, _, .int i => .int i
  | _, _, .str x => .str x
  | _, _, .tup h r => .tup h (VRs.twice r)
  | _, _, .ro h f r => .ro h (f.elim id .inr) (VRs.twice r)
  | _, _, .wr h r => .wr h (VRs.twice r)
  | _, _, .rd h l f r => .rd h l (f.elim id .inr) (VRs.twice r)
  | _, _, .ref h => .ref h
  | _, _, .ty n => .ty n
  | _, _, .gl a => .gl a
  | _, _, .ex0 h => .ex0 h
  | _, _, .ex1 h d r => .ex1 h d (VR.twice r)
theorem VRs.twice : ∀ {x : List Val} {v : List V}, VRs K (frF (frF fr ms n) ms n) H (ms.take n) v x → VRs K (frF fr ms n) H (ms.take n) v x
  | _, _, .nil => .nil
  | _, _, .cons a b => .cons (VR.twice a) (VRs.twice b)
end
theorem SR.give (s : SR K fr H ms st) (hn : n ≤ ms.length) (hc : closed n (st.take n) = true) : SR K (frF fr ms n) H (ms.take n) (st.take n) := by
  have hdis : ∀ a ∈ ms.take n, a ∉ ms.drop n := fun a h1 h2 => by
    have nd := s.nd
    rw [← List.take_append_drop n ms, List.nodup_append] at nd
    exact nd.2.2 a h1 a h2 rfl
  refine ⟨by rw [List.length_take, List.length_take, s.len], s.nd.sublist (List.take_sublist n ms), fun i a c h1 h2 => ?_, fun a h => ?_, fun a h => ?_⟩
  · have h1' : ms[i]? = some a := by
      rw [List.getElem?_take] at h1
      split at h1
      · exact h1
      · cases h1
    have h2' : st[i]? = some c := by
      rw [List.getElem?_take] at h2
      split at h2
      · exact h2
      · cases h2
    exact CR.blw (List.all_eq_true.mp hc c (List.mem_of_getElem? h2)) (s.cell i a c h1' h2')
  · exact fun z => z.elim (s.nfr a (List.mem_of_mem_take h)) (hdis a h)
  · rcases h with h | h
    · exact s.low a h
    · exact s.there (List.mem_of_mem_drop h)
theorem Ext.give (e : Ext ms0.length fr0 H0 ms0 fr H ms) : Ext ms0.length fr0 H0 ms0 (frF fr ms ms0.length) H (ms.take ms0.length) :=
  ⟨by rw [List.take_take, Nat.min_self]; exact e.pre, e.keep, e.there, fun a h => e.tk a (List.mem_of_mem_take h), fun a h => .inl (e.frk a h), fun a h => by
    rcases h with h | h
    · exact e.frn a h
    · rcases e.tk a (List.mem_of_mem_drop h) with q | q
      · exact .inr (.inr q)
      · exact .inr (.inl q)⟩
theorem left_cl {st0 st : Store} (s : SR K fr0 H0 ms0 st0) (h : leftB st0 st = true) : FL.closed st0.length (st.take st0.length) = true := by
  rcases Bool.or_eq_true_iff.mp h with h | h
  · rw [eqStore_eq h]
    exact s.allLow
  · exact h
/-- the end of a def, seen from its start -/
theorem ret_rt {st0 : Store} {Q : VK} {x : Val} {v : V} (s0 : SR K fr0 H0 ms0 st0) (q : QV K fr0 H0 ms0 (retV st0 x st).1 (retV st0 x st).2 Q) (e : Ext ms0.length fr0 H0 ms0 fr H ms) (s : SR K fr H ms st) (r : VR K fr H ms v x) : Q v H := by
  unfold retV at q
  split at q
  · next y hy =>
    cases hb : leftB st0 st with
    | true =>
      rw [hb] at q; dsimp only [cond_true] at q
      have hc := left_cl s0 hb
      rw [← s0.len] at hc hy q
      exact q _ _ _ _ e.give (s.give e.len hc) (frz_at s e.len hy r)
    | false =>
      rw [hb] at q; dsimp only [cond_false] at q
      exact q _ _ _ _ e s r
  · exact q _ _ _ _ e s r
end
/-- what a call comes to, seen by its caller -/
def spF (K : PySem.W.Frag) (F : List Val → Store → R Val) : Sp := fun vs H Q E => ∃ fr ms st xs, SR K fr H ms st ∧ VRs K fr H ms vs xs ∧ G K (fun c d _ H => E c d H) [] fr H ms (F xs st) (PV K Q)
structure FnF (P : Program) (w : World) (K : PySem.W.Frag) (mg : Str → Option Value) (base : Heap) (lv : Nat) (f : Addr) (fd : FuncData) (ps : List Str) (F : List Val → Store → R Val) : Prop where
  len : ∀ xs st, F xs st ≠ .bad → xs.length = ps.length
  go : ∀ (A : Around) (outer : List PySem.Env) (s : Shared) (H : Hp) (args : Args) (us : List Value) (vs : List V) (Q : VK) (E : XK), Room lv A → A.guards = some [] → Env0 P w K mg base A outer s H → BindsTo s fd args (ps.zip us) →
    Vals vs us → spF K F vs H Q E → codeAny (model P w) A (.call (.ref f) args) (L2.CR (L2.CX P w) outer P w H s Q E) s
theorem FnF.mono {P : Program} {w : World} {K : PySem.W.Frag} {mg : Str → Option Value} {base : Heap} {j lv : Nat} {f : Addr} {fd : FuncData} {ps : List Str} {F : List Val → Store → R Val} (h0 : FnF P w K mg base j f fd ps F) (h : j ≤ lv) : FnF P w K mg base lv f fd ps F :=
  ⟨h0.len, fun A outer s H args us vs Q E hr => h0.go A outer s H args us vs Q E (hr.mono h)⟩
theorem G.nb {K : PySem.W.Frag} {W : WX} {σ : L2.St} {fr : Addr → Prop} {H : Hp} {ms : List Addr} {α : Type} {r : R α} {P : α → (Addr → Prop) → Hp → List Addr → Store → Prop} (g : G K W σ fr H ms r P) : r ≠ .bad := fun z => by
  rw [z] at g
  exact g.elim
theorem spF_len {K : PySem.W.Frag} {F : List Val → Store → R Val} {ps : List Str} (h : ∀ xs st, F xs st ≠ .bad → xs.length = ps.length) {vs : List V} {H : Hp} {Q : VK} {E : XK} (q : spF K F vs H Q E) : vs.length = ps.length := by
  obtain ⟨fr, ms, st, xs, s, r, g⟩ := q
  rw [r.length]
  exact h xs st g.nb
theorem guards_deeper {A : Around} (env : PySem.Env) (h : A.guards = some []) : (A.deeper env).guards = some [] := by
  first
    | exact h
    | (show _ = _; simpa [Around.deeper] using h)
/-- an expression's result as a call's -/
theorem G.call {K : PySem.W.Frag} {W : WX} {σ : L2.St} {fr : Addr → Prop} {H : Hp} {ms : List Addr} {r : R Val} {Q : VK} (g : G K W σ fr H ms r (PV K Q)) : G K (fun c d _ H => W c d σ H) [] fr H ms r (PV K Q) := by
  cases r with
  | ok a st => exact g
  | exc x st => exact g
  | bad => exact g
def eCall (F : List Val → Store → R Val) (ds : List Val) (ta : FA) : FE := fun ρ st => (ta ρ st).bind fun xs st1 => F (xs ++ ds) st1
section
variable {X : Cx} {W : WX} {lv : Nat} {f : Addr} {fd : FuncData} {ps : List Str} {F : List Val → Store → R Val} {x : Str} {p pos : Pos} {e : Expr} {es : List Expr} {t : FA}
theorem run_g {pins : List (Addr × Obj)} {σ : L2.St} {H : Hp} {s : Shared} {Q : VK} {args : Args} {us : List Value} {vs : List V} (h0 : FnF X.prog X.w X.K X.mg X.base lv f fd ps F) (hr : Room lv X.A) (hg : X.A.guards = some []) (tk : Takes X W)
    (I : Inv X pins σ H s) (hb : us.length = ps.length → BindsTo s fd args (ps.zip us)) (r : Vals vs us) (h : spF X.K F vs H Q (fun c d H => W c d σ H)) : codeAny (model X.prog X.w) X.A (.call (.ref f) args) (fun r s' => match r with
      | .ok (.ret u) => EP X pins σ Q u s'
      | .ok _ => False
      | .error e => X.xe e s') s := by
  have hl : us.length = ps.length := by
    rw [← r.length]
    exact spF_len h0.len h
  refine codeAny_mono (h0.go X.A X.stack s H args us vs Q _ hr hg I.env0 (hb hl) r h) fun z s' hz => ?_
  match z, hz with
  | .error e, hz => exact tk e s' (XE.of_call I (fun _ _ _ h => h) hz)
  | .ok (.ret u), hz => exact I.after hz
theorem call_g {pins : List (Addr × Obj)} {σ : L2.St} {H : Hp} {s : Shared} {Q : VK} {us us' : List Value} {kws : List (Str × Value)} {vs : List V} (h0 : FnF X.prog X.w X.K X.mg X.base lv f fd ps F) (hr : Room lv X.A) (hg : X.A.guards = some []) (tk : Takes X W)
    (I : Inv X pins σ H s) (hb : us.length = ps.length → BindsTo s fd ⟨us', kws⟩ (ps.zip us)) (r : Vals vs us) (h : spF X.K F vs H Q (fun c d H => W c d σ H)) : wpAny (model X.prog X.w) X.A (PySem.call (.ref f) us' kws) (EP X pins σ Q) X.xe s :=
  wpAny_call (codeAny_mono (run_g h0 hr hg tk I hb r h) fun z s' hz => by
    match z, hz with
    | .error e, hz => exact hz
    | .ok (.ret u), hz => exact hz)
theorem d_call {ds : List Val} {dvs : List V} {dus : List Value} (h0 : FnF X.prog X.w X.K X.mg X.base lv f fd ps F) (hr : Room lv X.A) (hg : X.A.guards = some []) (tk : Takes X W) (hm : X.mg x = some (.ref f)) (hk : PySem.W.keepIn X.K (.ref f) = true) (hb : Binds X.K fd ps dus) (hd : Vals dvs dus) (hs : ∀ fr H ms, VRs X.K fr H ms dvs ds)
    (ha : DA X W (e :: es) t) (hgl : Gl X x := by rfl) (hdb : (x == ("__debug__" : Str)) = false := by decide) (he : starEach (e :: es) X.env = (false, eval e X.env) :: starEach es X.env := by rfl) (hpl : (backTo pos (starEach es X.env)).any (·.1) = false := by rfl) :
    DE X W (.Call (.Name x p) (e :: es) [] pos) (eCall F ds t) := by
  constructor
  intro pins s σ H Q I h
  obtain ⟨fr, ms, ρ, st, w, g⟩ := h
  refine wpAny_Call_Name_kw (ld_glob I hgl hm ?_ hdb)
  refine PySem.W.callWith_K (h₀ := X.base) I.ok.mod.kin hk (thn (ha.run pos pins s σ H (fun vs H1 => spF X.K F (vs ++ dvs) H1 Q (fun c d H => W c d σ H)) I ⟨fr, ms, ρ, st, w, g.bind.mono fun xs st1 fr1 H1 ms1 _ _ ⟨e1, s1, g1⟩ vs rs => ?_⟩) fun us s1 z => ?_) he hpl
  · exact ⟨fr1, ms1, st1, xs ++ ds, s1, rs.app (hs _ _ _), g1.call⟩
  · obtain ⟨vs, H1, I1, r, z⟩ := z
    exact ⟨I1.kIn, call_g (us := us ++ dus) h0 hr hg tk I1 (fun hl => hb s1 us I1.kIn hl) (r.append hd) z⟩
/-- f() -/
theorem d_call0 {ds : List Val} {dvs : List V} {dus : List Value} (h0 : FnF X.prog X.w X.K X.mg X.base lv f fd ps F) (hr : Room lv X.A) (hg : X.A.guards = some []) (tk : Takes X W) (hm : X.mg x = some (.ref f)) (hk : PySem.W.keepIn X.K (.ref f) = true) (hb : Binds X.K fd ps dus) (hd : Vals dvs dus) (hs : ∀ fr H ms, VRs X.K fr H ms dvs ds)
    (hgl : Gl X x := by rfl) (hdb : (x == ("__debug__" : Str)) = false := by decide) : DE X W (.Call (.Name x p) [] [] pos) (eCall F ds aNil) := by
  constructor
  intro pins s σ H Q I h
  obtain ⟨fr, ms, ρ, st, w, g⟩ := h
  refine wpAny_Call_Name_kw (ld_glob I hgl hm ?_ hdb)
  exact PySem.W.callWith_K0 I.kIn hk (call_g (us := [] ++ dus) (us' := []) h0 hr hg tk I (fun hl => hb s [] I.kIn hl) (Vals.append .nil hd) ⟨fr, ms, st, ds, w.sr, hs _ _ _, (show G X.K W σ fr H ms (F ([] ++ ds) st) (PV X.K Q) from g).call⟩)
/-! ### keywords -/
abbrev DK (X : Cx) (W : WX) (ks : List Keyword) (t : FA) : Prop := PK X ks (LA X.K W t)
theorem pk_imp {X : Cx} {e : List Keyword} {t t' : TA} (h : PK X e t) (i : ∀ σ H Q, t' σ H Q → t σ H Q) : PK X e t' := ⟨fun pos pins s σ H Q I q => h.run pos pins s σ H Q I (i _ _ _ q)⟩
theorem k_nil : DK X W [] aNil := pk_imp pk_nil fun σ H Q ⟨fr, ms, ρ, st, w, g⟩ => g.now w.sr [] .nil
theorem k_cons {te : FE} {kws : List Keyword} {tk : FA} {nm : Option Str} {kpos : Pos} (ha : DE X W e te) (hr : DK X W kws tk) : DK X W (⟨nm, e, kpos⟩ :: kws) (aCons te tk) := pk_imp (pk_cons ha hr) fun σ H Q ⟨fr, ms, ρ, st, w, g⟩ =>
  ⟨fr, ms, ρ, st, w, g.bind.mono fun x st1 fr1 H1 ms1 _ _ ⟨e1, s1, g1⟩ v rv => ⟨fr1, ms1, ρ, st1, w.on e1 s1, g1.bind.mono fun xs st2 fr2 H2 ms2 _ _ ⟨e2, s2, g2⟩ vs rs => g2.now s2 _ (.cons (rv.ex s1 e2) rs)⟩⟩
/-- f(k = v, ..): how the keywords' values come to the parameters' places: by a list of places -/
def byPl {α : Type} (pl : List Nat) (ws : List α) : List α := pl.filterMap fun i => ws[i]?
theorem vrs_byPl {K : PySem.W.Frag} {fr : Addr → Prop} {H : Hp} {ms : List Addr} {vs : List V} {xs : List Val} (r : VRs K fr H ms vs xs) : ∀ pl : List Nat, VRs K fr H ms (byPl pl vs) (byPl pl xs)
  | [] => .nil
  | i :: l => by
    have ih := vrs_byPl r l
    unfold byPl at ih ⊢
    cases e : xs[i]? with
    | none =>
      have e2 : vs[i]? = none := by
        rw [List.getElem?_eq_none_iff] at e ⊢
        rw [r.length]
        exact e
      rw [List.filterMap_cons_none e, List.filterMap_cons_none e2]
      exact ih
    | some x =>
      obtain ⟨v, hv, rv⟩ := r.get e
      rw [List.filterMap_cons_some e, List.filterMap_cons_some hv]
      exact .cons rv ih
theorem vals_byPl {vs : List V} {us : List Value} (r : Vals vs us) : ∀ pl : List Nat, Vals (byPl pl vs) (byPl pl us)
  | [] => .nil
  | i :: l => by
    have ih := vals_byPl r l
    unfold byPl at ih ⊢
    cases e : vs[i]? with
    | none =>
      rw [List.filterMap_cons_none e, List.filterMap_cons_none (r.none_of e)]
      exact ih
    | some x =>
      obtain ⟨v, hv, rv⟩ := r.get e
      rw [List.filterMap_cons_some e, List.filterMap_cons_some hv]
      exact .cons rv ih
/-- how a call by keywords alone binds -/
def KwBinds (K : PySem.W.Frag) (fd : FuncData) (ps ks : List Str) (pl : List Nat) : Prop := ∀ (s : Shared) (ws : List Value), K.In s.heap → ws.length = ks.length → BindsTo s fd ⟨[], ks.zip ws⟩ (ps.zip (byPl pl ws))
def eCallK (F : List Val → Store → R Val) (pl : List Nat) (tk : FA) : FE := fun ρ st => (tk ρ st).bind fun xs st1 => bif xs.length == pl.length then F (byPl pl xs) st1 else .bad
theorem beq_nat {a b : Nat} (h : (a == b) = true) : a = b := by simpa using h
theorem d_callK {ks : List Str} (pl : List Nat) {kws : List Keyword} {tkw : FA} (h0 : FnF X.prog X.w X.K X.mg X.base lv f fd ps F) (hr : Room lv X.A) (hg : X.A.guards = some []) (tk : Takes X W) (hm : X.mg x = some (.ref f)) (hk : PySem.W.keepIn X.K (.ref f) = true) (hb : KwBinds X.K fd ps ks pl)
    (hn : pl.length = ks.length) (hkw : DK X W kws tkw) (hall : (backToKw pos (keywordEach kws X.env)).all (·.1.isSome) = true := by rfl) (hks : (backToKw pos (keywordEach kws X.env)).filterMap (·.1) = ks := by rfl) (hgl : Gl X x := by rfl)
    (hdb : (x == ("__debug__" : Str)) = false := by decide) (hpl : ((backTo pos (starEach [] X.env)).any (·.1) || (backToKw pos (keywordEach kws X.env)).any (·.1.isNone)) = false := by rfl) :
    DE X W (.Call (.Name x p) [] kws pos) (eCallK F pl tkw) := by
  constructor
  intro pins s σ H Q I h
  obtain ⟨fr, ms, ρ, st, w, g⟩ := h
  refine wpAny_Call_Name_kw (ld_glob I hgl hm ?_ hdb)
  refine PySem.W.callWith_KW0 (h₀ := X.base) I.ok.mod.kin hk hall (thn (hkw.run pos pins s σ H (fun vs H1 => vs.length = pl.length ∧ spF X.K F (byPl pl vs) H1 Q (fun c d H => W c d σ H)) I ⟨fr, ms, ρ, st, w, g.bind.mono fun xs st1 fr1 H1 ms1 _ _ ⟨e1, s1, g1⟩ vs rs => ?_⟩) fun us s1 z => ?_) hpl
  · obtain ⟨hl, g2⟩ := g1.cond
    exact ⟨rs.length.trans (beq_nat hl), fr1, ms1, st1, byPl pl xs, s1, vrs_byPl rs pl, g2.call⟩
  · obtain ⟨vs, H1, I1, r, hv, z⟩ := z
    refine ⟨I1.kIn, ?_⟩
    rw [hks]
    exact call_g (us := byPl pl us) (us' := []) h0 hr hg tk I1 (fun _ => hb s1 us I1.kIn (by rw [← r.length, hv, hn])) (vals_byPl r pl) z
/-- f(.., k = v, ..): n values by place, the lacking ones' ds, then the keywords', put in the parameters' order by pl -/
def eCallM (F : List Val → Store → R Val) (n m : Nat) (ds : List Val) (pl : List Nat) (ta tk : FA) : FE := fun ρ st => (ta ρ st).bind fun xs st1 => (tk ρ st1).bind fun zs st2 => bif (xs.length == n) && (zs.length == m) then F (byPl pl (xs ++ (ds ++ zs))) st2 else .bad
/-- what such a call binds -/
def MBinds (K : PySem.W.Frag) (fd : FuncData) (ps : List Str) (n : Nat) (dvs : List V) (ks : List Str) (pl : List Nat) : Prop := ∃ dus, Vals dvs dus ∧ ∀ (s : Shared) (us ws : List Value), K.In s.heap → us.length = n → ws.length = ks.length → BindsTo s fd ⟨us, ks.zip ws⟩ (ps.zip (byPl pl (us ++ (dus ++ ws))))
theorem d_callM {ds : List Val} {dvs : List V} {ks : List Str} {kws : List Keyword} {tkw : FA} (n : Nat) (pl : List Nat) (h0 : FnF X.prog X.w X.K X.mg X.base lv f fd ps F) (hr : Room lv X.A) (hg : X.A.guards = some []) (tk : Takes X W) (hm : X.mg x = some (.ref f)) (hk : PySem.W.keepIn X.K (.ref f) = true) (hb : MBinds X.K fd ps n dvs ks pl) (hs : ∀ fr H ms, VRs X.K fr H ms dvs ds)
    (ha : DA X W (e :: es) t) (hkw : DK X W kws tkw) (hall : (backToKw pos (keywordEach kws X.env)).all (·.1.isSome) = true := by rfl) (hks : (backToKw pos (keywordEach kws X.env)).filterMap (·.1) = ks := by rfl) (hgl : Gl X x := by rfl)
    (hdb : (x == ("__debug__" : Str)) = false := by decide) (he : starEach (e :: es) X.env = (false, eval e X.env) :: starEach es X.env := by rfl)
    (hpl : ((backTo pos (starEach (e :: es) X.env)).any (·.1) || (backToKw pos (keywordEach kws X.env)).any (·.1.isNone)) = false := by rfl) :
    DE X W (.Call (.Name x p) (e :: es) kws pos) (eCallM F n ks.length ds pl t tkw) := by
  obtain ⟨dus, hd, hb⟩ := hb
  constructor
  intro pins s σ H Q I h
  obtain ⟨fr, ms, ρ, st, w, g⟩ := h
  refine wpAny_Call_Name_kw (ld_glob I hgl hm ?_ hdb)
  refine PySem.W.callWith_KW (h₀ := X.base) I.ok.mod.kin hk hall (thn (ha.run pos pins s σ H (fun vs H1 => LA X.K W tkw σ H1 fun zs H2 => vs.length = n ∧ zs.length = ks.length ∧ spF X.K F (byPl pl (vs ++ (dvs ++ zs))) H2 Q (fun c d H => W c d σ H)) I ⟨fr, ms, ρ, st, w, g.bind.mono fun xs st1 fr1 H1 ms1 _ _ ⟨e1, s1, g1⟩ vs rs => ?_⟩) fun us s1 z => ?_) hpl he
  · refine ⟨fr1, ms1, ρ, st1, w.on e1 s1, g1.bind.mono fun zs st2 fr2 H2 ms2 _ _ ⟨e2, s2, g2⟩ us rz => ?_⟩
    obtain ⟨hl, g3⟩ := g2.cond
    have hl := Bool.and_eq_true_iff.mp hl
    exact ⟨rs.length.trans (beq_nat hl.1), rz.length.trans (beq_nat hl.2), fr2, ms2, st2, _, s2, vrs_byPl ((rs.ex s1 e2).app ((hs _ _ _).app rz)) pl, g3.call⟩
  · obtain ⟨vs, H1, I1, r, z⟩ := z
    refine thn (hkw.run pos pins s1 σ H1 _ I1 z) fun ws s2 ⟨zs, H2, I2, rz, l1, l2, q2⟩ => ⟨I2.kIn, ?_⟩
    rw [hks]
    have rr : Vals (byPl pl (vs ++ (dvs ++ zs))) (byPl pl (us ++ (dus ++ ws))) := vals_byPl (r.append (hd.append rz)) pl
    exact call_g h0 hr hg tk I2 (fun _ => hb s2 us ws I2.kIn (r.length.symm.trans l1) (rz.length.symm.trans l2)) rr q2
end
/-! ### a def's body -/
def startF (n : Nat) (xs : List Val) : Env := xs.map some ++ List.replicate (n - xs.length) none
theorem start_wd {K : PySem.W.Frag} {fr : Addr → Prop} {H : Hp} {ms : List Addr} {st : Store} {N : List Str} {vs : List V} {xs : List Val} (s : SR K fr H ms st) (r : VRs K fr H ms vs xs) : Wd K fr H ms (L2.start N vs) (startF N.length xs) st := by
  have hl := r.length
  refine ⟨by unfold L2.start startF; rw [List.length_append, List.length_append, List.length_map, List.length_map, List.length_replicate, List.length_replicate, hl], fun i x h => ?_, s⟩
  unfold startF at h
  by_cases hi : i < xs.length
  · rw [List.getElem?_append_left (by rw [List.length_map]; exact hi), List.getElem?_map] at h
    cases e : xs[i]? with
    | none =>
      rw [e] at h
      cases h
    | some y =>
      rw [e] at h
      cases h
      obtain ⟨v, hv, rv⟩ := r.get e
      refine ⟨v, ?_, rv⟩
      unfold L2.start
      rw [List.getElem?_append_left (by rw [List.length_map, hl]; exact hi), List.getElem?_map, hv]
      rfl
  · rw [List.getElem?_append_right (by rw [List.length_map]; omega), List.getElem?_replicate] at h
    split at h <;> cases h
/-- a def as a function: k parameters, n names; z: what it makes is given up -/
def fnF (z : Bool) (k n : Nat) (t : FS) : List Val → Store → R Val := fun xs st => bif xs.length == k then retF z st (t (startF n xs) st) else .bad
section
variable {P : Program} {w : World} {K : PySem.W.Frag} {mg : Str → Option Value} {base : Heap}
/-- the frame of a call: the body's run gives the call's end -/
theorem enter_g {x qual : Str} {params : Arguments} {body : List Stmt} {scope : Scope} {dvs : List V} {kws : List (Str × V)} {f : Addr} {fd : FuncData} {N ps : List Str} {lv : Nat} {sp : Sp} (F : FunD K x qual params body scope dvs kws f fd) (S : FnScope N ps scope) (len : ∀ vs H Q E, sp vs H Q E → vs.length = ps.length)
    {A : Around} {outer : List PySem.Env} {s : Shared} {H : Hp} {args : Args} {us : List Value} {vs : List V} {Q : VK} {E : XK} (hr : Room (lv + 1) A) (e0 : Env0 P w K mg base A outer s H) (hb : BindsTo s fd args (ps.zip us)) (r : Vals vs us) (hsp : sp vs H Q E)
    (hbody : ∀ cdv, ∃ t, PSs (cxOf (L2.CX P w) P w K mg base N qual scope f cdv A outer s H E) body t ∧ t { nx := fun _ H' => Q .non H', rt := Q } (start N vs) H) :
    codeAny (model P w) A (.call (.ref f) args) (L2.CR (L2.CX P w) outer P w H s Q E) s := by
  obtain ⟨oc, od, dV, kV, doc, pm, an, cdv, ct, osl, rfl, lk, hcd, _, _⟩ := F.ex
  have sees : K.In s.heap := e0.mod.kin.keeps fun b o q => (e0.bs b o q).1
  have kinds : ∀ y ∈ ps.zip us, scope.names.lookup y.1 = some .local ∨ (scope.names.lookup y.1 = some .cell ∧ ((cellsFrom (s.heap.objs.size + 1) scope.names []).lookup y.1).isSome = true) := by
    rintro ⟨n, v⟩ hy
    exact (S.par n (List.of_mem_zip hy).1).imp id fun q => ⟨q, PySem.W.cellsFrom_some _ _ _ (.inl q)⟩
  have hl := len _ _ _ _ hsp
  refine codeAny_call_function hr.depth (sees _ _ lk) rfl S.co S.gen rfl (PySem.W.codeRec_of sees hcd) (hb _ _ _ _ (wpAny_newFunctionEnv_cells S.kind kinds fun env he s1 X1 => ?_))
  subst he
  have lim : s.heap.NoLimit := e0.mod.nolimit.keeps fun b o q => (e0.bs b o q).1
  refine ⟨lim.keeps X1.toInCall.keep, codeAny_func ?_⟩
  obtain ⟨t, ht, hq⟩ := hbody cdv
  have I := inv_start (CX := L2.CX P w) (E := E) S hr.hd e0 hl r X1
  refine wpAny_mono (ht.run [] s1 _ H _ I hq) (fun fl s' hs => ?_) fun _ _ z => z
  match fl, hs with
  | .ret u, ⟨v, σ', H', J, rv, q⟩ => exact ⟨v, H', J.os, J.bare, J.base, J.hok, rv, q⟩
  | .next, ⟨σ', H', J, q⟩ => exact ⟨.non, H', J.os, J.bare, J.base, J.hok, rfl, q⟩
  | .brk, ⟨_, _, _, q⟩ => exact q.elim
  | .cont, ⟨_, _, _, q⟩ => exact q.elim
theorem retX_at {K : PySem.W.Frag} {fr fr0 : Addr → Prop} {H H0 : Hp} {ms ms0 : List Addr} {st st0 : Store} {x : XV} {E : XK} {d : Option Addr} (s0 : SR K fr0 H0 ms0 st0) (q : ∀ fr' H' ms' d, Ext ms0.length fr0 H0 ms0 fr' H' ms' → SR K fr' H' ms' (retX st0 x st).2 → XR K fr' H' ms' d (retX st0 x st).1 → E (.ref (cA K (retX st0 x st).1.1)) d H')
    (e : Ext ms0.length fr0 H0 ms0 fr H ms) (s : SR K fr H ms st) (r : XR K fr H ms d x) : E (.ref (cA K x.1)) d H := by
  obtain ⟨c, o⟩ := x
  cases o with
  | none =>
    unfold retX at q
    dsimp only at q
    cases hb : leftB st0 st with
    | true =>
      rw [hb] at q; dsimp only [cond_true] at q
      have hc := left_cl s0 hb
      rw [← s0.len] at hc q
      exact q _ _ _ d e.give (s.give e.len hc) r
    | false =>
      rw [hb] at q; dsimp only [cond_false] at q
      exact q _ _ _ d e s r
  | some p =>
    obtain ⟨f, v⟩ := p
    unfold retX at q
    dsimp only at q
    split at q
    · next y hy =>
      cases hb : leftB st0 st with
      | true =>
        rw [hb] at q; dsimp only [cond_true] at q
        have hc := left_cl s0 hb
        rw [← s0.len] at hc hy q
        obtain ⟨dd, w, h1, h2, h3⟩ := r
        exact q _ _ _ d e.give (s.give e.len hc) ⟨dd, w, h1, h2, frz_at s e.len hy h3⟩
      | false =>
        rw [hb] at q; dsimp only [cond_false] at q
        exact q _ _ _ d e s r
    · exact q _ _ _ d e s r
/-- THE RULE for a def -/
theorem okF {x qual : Str} {params : Arguments} {body : List Stmt} {scope : Scope} {dvs : List V} {kws : List (Str × V)} {f : Addr} {fd : FuncData} {N ps : List Str} {lv : Nat} {t : FS} (z : Bool) (F : FunD K x qual params body scope dvs kws f fd) (S : FnScope N ps scope)
    (walk : ∀ (cdv : Value) (A : Around) (outer : List PySem.Env) (s : Shared) (H : Hp) (E : XK), Room lv (cxOf (L2.CX P w) P w K mg base N qual scope f cdv A outer s H E).A → (cxOf (L2.CX P w) P w K mg base N qual scope f cdv A outer s H E).A.guards = some [] →
      ∀ W, Takes (cxOf (L2.CX P w) P w K mg base N qual scope f cdv A outer s H E) W → DSs (cxOf (L2.CX P w) P w K mg base N qual scope f cdv A outer s H E) W body t) : FnF P w K mg base (lv + 1) f fd ps (fnF z ps.length N.length t) := by
  have len : ∀ xs st, fnF z ps.length N.length t xs st ≠ .bad → xs.length = ps.length := fun xs st h => by
    unfold fnF at h
    cases e : (xs.length == ps.length) with
    | true => exact beq_nat e
    | false =>
      rw [e] at h
      exact absurd rfl h
  refine ⟨len, fun A outer s H args us vs Q E hr hg e0 hb r hsp => enter_g (sp := spF K (fnF z ps.length N.length t)) F S (fun vs H Q E q => spF_len len q) hr e0 hb r hsp fun cdv => ⟨_, walk cdv A outer s H E (hr.deeper _) (guards_deeper _ hg) _ (takes_of rfl rfl rfl rfl), ?_⟩⟩
  obtain ⟨fr, ms, st, xs, sr, rx, g⟩ := hsp
  have hlx := len xs st g.nb
  have g' : G K (fun c d _ H => E c d H) [] fr H ms (retF z st (t (startF N.length xs) st)) (PV K Q) := by
    unfold fnF at g
    rw [show (xs.length == ps.length) = true by simp [hlx]] at g
    exact g
  refine ⟨fr, ms, startF N.length xs, st, start_wd sr rx, ?_⟩
  unfold retF at g'
  split at g'
  · next x st' he =>
    rw [he]
    cases z with
    | true => exact fun fr' H' ms' v e' s' r' => ret_rt sr (QV.of g') e' s' r'
    | false => exact fun fr' H' ms' v e' s' r' => QV.of g' _ _ _ _ e' s' r'
  · next ρ st' he =>
    rw [he]
    cases z with
    | true =>
      exact fun fr' H' ms' σ' e' w' => ret_rt (x := .non) (v := .non) (st := st') sr (QV.of g') e' w'.sr .non
    | false => exact fun fr' H' ms' σ' e' w' => QV.of g' _ _ _ _ e' w'.sr .non
  · next x ρ st' he =>
    rw [he]
    cases z with
    | true => exact fun fr' H' ms' σ' d e' w' x' => retX_at sr (x := x) (st := st') g' e' w'.sr x'
    | false => exact fun fr' H' ms' σ' d e' w' x' => g' _ _ _ d e' w'.sr x'
  · exact g'.elim
end
end FL
/-! rules of the hand layer's own kind that it lacks -/
namespace FL
open PySem PySem.Spec PyProof.Rows L2

section
variable {prog : Program} {w : World} {A : Around} {E : Value → Shared → Prop} {s : Shared}
theorem rev_adj (n : Nat) : Builtin.Slice.sliceAdjust none none (-1) (n : Int) = ((n : Int) - 1, -1) := by
  unfold Builtin.Slice.sliceAdjust
  simp
theorem rev_places (n : Nat) : Builtin.Slice.slicePlaces ((n : Int) - 1) (-1) (-1) = n := by
  unfold Builtin.Slice.slicePlaces
  have h : ¬ ((-1 : Int) > 0) := by omega
  simp only [h, if_false, Int.neg_neg, Int.ediv_one]
  split <;> omega
theorem rev_pick (xs : Array Value) : ((List.range xs.size).filterMap fun (m : Nat) => xs[((xs.size : Int) - 1 + (m : Int) * (-1)).toNat]?).toArray = xs.toList.reverse.toArray := by
  have e : ((List.range xs.size).filterMap fun (m : Nat) => xs[((xs.size : Int) - 1 + (m : Int) * (-1)).toNat]?) = xs.toList.reverse := by
    have h1 : ((List.range xs.size).filterMap fun (m : Nat) => xs[((xs.size : Int) - 1 + (m : Int) * (-1)).toNat]?) = ((List.range xs.size).map fun m => xs.size - 1 - m).filterMap fun m => xs[m]? := by
      rw [List.filterMap_map]
      congr 1
      funext m
      have e2 : ((xs.size : Int) - 1 + (m : Int) * (-1)).toNat = xs.size - 1 - m := by omega
      show xs[((xs.size : Int) - 1 + (m : Int) * (-1)).toNat]? = xs[xs.size - 1 - m]?
      rw [e2]
    rw [h1, PySem.W.krv_range, List.filterMap_reverse, PySem.W.krv_all]
  rw [e]
theorem getItem_tuple_rev {t sl : Addr} {items : Array Value} {vs : Value} {Q : Value → Shared → Prop} (ht : IsTup s.heap t items) (hs : s.heap.IsSliceOf sl .none .none vs) (ps : IsPart vs (some (-1)))
    (h : Q (.ref s.heap.objs.size) { s with heap := s.heap.push { cls := .type "tuple", data := .seq items.toList.reverse.toArray } }) (hsz : items.size ≤ sizeLine) : wpAny (model prog w) A (getItem (.ref t) (.ref sl)) Q E s := by
  have hfit : sizeOk (.seq items.toList.reverse.toArray) := by
    show items.toList.reverse.toArray.size ≤ sizeLine
    rw [List.size_toArray, List.length_reverse, Array.length_toList]
    exact hsz
  obtain ⟨os, hos, hcs, hds⟩ := id hs
  have isSl : s.TypeIs (.ref sl) "slice" := ⟨os, hos, hcs⟩
  unfold getItem
  try with_reducible refine wpAny_holding ?_
  first | refine wpAny_bind (wpAny_pure ?_) | skip
  refine wpAny_bind (wpAny_sequenceKey ht.typeIs (by decide) ?_)
  refine wpAny_bind (wpAny_callSpecial?_slot (name := Str.ofString "__getitem__") ht.typeIs slot_tuple_getitem (wpAny_call_entry slot_tuple_getitem ht.typeIs entry_tuple_getitem ?_ (args_tuple_getitem _ _)))
  show wpAny _ _ (Builtin.Tuple.tupleItemsOf (.ref t) >>= _) _ _ s
  refine wpAny_bind (tupleItemsOf_ ht (wpAny_bind (wpAny_typeOf isSl ?_)))
  rw [if_pos (by decide)]
  have inner : ∀ {A : Around} {E : Value → Shared → Prop} {Q : Int × Int × Nat → Shared → Prop}, Q ((items.size : Int) - 1, -1, items.size) s → wpAny (model prog w) A (Builtin.Slice.sliceApplied (.ref sl) (pure (items.size : Int))) Q E s := fun {A E Q} hq => by
    unfold Builtin.Slice.sliceApplied Builtin.Slice.sliceFields
    refine wpAny_bind (wpAny_bind (wpAny_field hos hds (x := .none) rfl (wpAny_bind (wpAny_field hos hds (x := .none) rfl (wpAny_bind (wpAny_field hos hds (x := vs) rfl (wpAny_pure ?_)))))))
    refine wpAny_bind (HT.slicePart_ ps ?_)
    show wpAny _ _ (if ((-1 : Int) == 0) = true then _ else _) _ _ s
    rw [if_neg (by decide)]
    refine wpAny_bind (slicePart_none (wpAny_bind (slicePart_none (wpAny_bind (wpAny_pure ?_)))))
    show wpAny _ _ (match Builtin.Slice.sliceAdjust none none (-1) (items.size : Int) with | (lo, hi) => pure (lo, (-1 : Int), Builtin.Slice.slicePlaces lo hi (-1))) _ _ s
    rw [rev_adj]
    show wpAny _ _ (pure ((items.size : Int) - 1, (-1 : Int), Builtin.Slice.slicePlaces ((items.size : Int) - 1) (-1) (-1))) _ _ s
    rw [rev_places]
    exact wpAny_pure hq
  refine wpAny_bind (inner ?_)
  have no : ¬ ((((items.size : Int) - 1) == 0 && (-1 : Int) == 1 && items.size == items.size) = true) := by
    intro q
    rw [Bool.and_eq_true, Bool.and_eq_true] at q
    exact absurd q.1.2 (by decide)
  show wpAny _ _ (if (((items.size : Int) - 1) == 0 && (-1 : Int) == 1 && items.size == items.size) = true then _ else _) _ _ s
  rw [if_neg no, rev_pick]
  first
    | exact wpAny_bind (m := Builtin.Tuple.tupleExact _) (wpAny_newObj_type (wpAny_pure ⟨_, rfl, wpAny_pure h⟩) hfit)
    | exact wpAny_bind (m := Builtin.Tuple.tupleExact _) (wpAny_newObj_type (wpAny_bind (wpAny_pure (wpAny_pure ⟨_, rfl, wpAny_pure h⟩))) hfit)
    | exact wpAny_bind (wpAny_bind (m := Builtin.Tuple.tupleExact _) (wpAny_newObj_type (wpAny_pure (wpAny_pure ⟨_, rfl, wpAny_pure h⟩)) hfit))
    | exact wpAny_bind (wpAny_bind (m := Builtin.Tuple.tupleExact _) (wpAny_newObj_type (wpAny_pure ⟨_, rfl, wpAny_pure h⟩) hfit))
end
def tRevU (K : PySem.W.Frag) (te : TE) : TE := fun σ H Q => te σ H fun x H1 => ∃ a xs, x = .ref a ∧ ((SqL K H1 a xs ∧ ∀ p, H1 p = none → Q (.ref p) (upd H1 p (.lst xs.reverse))) ∨ (SqT K H1 a xs ∧ ∀ p, H1 p = none → Q (.ref p) (upd H1 p (.tup xs.reverse))))
theorem pe_revU {X : Cx} {e : Expr} {te : TE} {k : Nat} {p1 p2 p3 pos : Pos} (he : PE X e te) : PE X (.Subscript e (.Slice none none (some (.UnaryOp .USub (.Constant (.int 1) k p1) p2)) p3) pos) (tRevU X.K te) := by
  constructor
  intro pins s σ H Q I h
  refine Subscript_ (thn (he.run pins s σ H _ I h) fun v s1 z1 => ?_)
  obtain ⟨x, H1, I1, r1, a, xs, rfl, q⟩ := z1
  obtain rfl : v = Value.ref a := r1
  have step : PO X (some (.UnaryOp .USub (.Constant (.int 1) k p1) p2)) (tPart (tUn (rU fun i => .int (-i)) (tC (.int 1)))) := po_some (pe_un un_neg pe_int)
  refine wpAny_Slice (thn (po_none.run pins s1 σ H1 (fun o H2 => o = none ∧ H2 = H1) I1 ⟨rfl, rfl⟩) fun vl s2 ⟨l, H2, I2, pl, el, e2⟩ => ?_)
  subst el e2
  refine thn (po_none.run pins s2 σ H2 (fun o H3 => o = none ∧ H3 = H2) I2 ⟨rfl, rfl⟩) fun vu s3 ⟨u, H3, I3, pu, eu, e3⟩ => ?_
  subst eu e3
  refine thn (step.run pins s3 σ H3 (fun o H4 => o = some (-1) ∧ H4 = H3) I3 ⟨1, rfl, -1, rfl, rfl, rfl⟩) fun vs s4 ⟨o, H4, I4, ps, eo, e4⟩ => ?_
  subst eo e4
  have I5 : Inv X pins σ H4 { s4 with heap := s4.heap.push { cls := .type "slice", data := .fields #[vl, vu, vs] } } := I4.kept (t' := s4.toks) fun b ob z => Heap.get?_push_of_some _ z
  have new : ∀ o : HO, ∀ ob : Obj, ObjOk X.prog X.w (upd H4 ((s4.heap.push { cls := .type "slice", data := .fields #[vl, vu, vs] }).objs.size) o) ((s4.heap.push { cls := .type "slice", data := .fields #[vl, vu, vs] }).push ob) ((s4.heap.push { cls := .type "slice", data := .fields #[vl, vu, vs] }).objs.size) o →
      Q (.ref ((s4.heap.push { cls := .type "slice", data := .fields #[vl, vu, vs] }).objs.size)) (upd H4 ((s4.heap.push { cls := .type "slice", data := .fields #[vl, vu, vs] }).objs.size) o) →
      EP X pins σ Q (.ref ((s4.heap.push { cls := .type "slice", data := .fields #[vl, vu, vs] }).objs.size)) { s4 with heap := (s4.heap.push { cls := .type "slice", data := .fields #[vl, vu, vs] }).push ob } := fun o ob ho hq =>
    ⟨.ref _, _, I5.laid (t' := s4.toks) (fun b u z => Heap.get?_push_of_some _ z) (Nat.le_refl _) ho, rfl, hq⟩
  rcases q with ⟨hx, q⟩ | ⟨hx, q⟩
  · obtain ⟨its, r, ht, hz⟩ := I5.list hx
    have hlen := r.length
    show wpAny (model X.prog X.w) X.A (subscriptTail e (.Slice none none (some (.UnaryOp .USub (.Constant (.int 1) k p1) p2)) p3) (.ref a) (.ref s4.heap.objs.size)) _ X.xe _
    refine tail_any (ops := [.ref a, .ref s4.heap.objs.size]) ht.isList.typeIs (PySem.slot_list_getitem.lookup) ?_ (by with_unfolding_all rfl)
    refine wpAny_getItem_list_slice ht.isList (Heap.IsSliceOf.new _ vl vu vs) pl pu ps (by decide) ?_ (by rw [List.size_toArray]; omega)
    rw [PySem.W.krv_pick]
    exact new (.lst xs.reverse) _ ⟨by rw [List.length_reverse]; exact hz, _, 0, r.reverse, Heap.get?_push_size _ rfl⟩ (q _ (I5.hok.fresh (Nat.le_refl _)))
  · obtain ⟨its, r, ht, hz⟩ := I5.tuple hx
    have hlen := r.length
    show wpAny (model X.prog X.w) X.A (subscriptTail e (.Slice none none (some (.UnaryOp .USub (.Constant (.int 1) k p1) p2)) p3) (.ref a) (.ref s4.heap.objs.size)) _ X.xe _
    refine tail_any (ops := [.ref a, .ref s4.heap.objs.size]) ht.typeIs (slot_tuple_getitem.lookup) ?_ (by with_unfolding_all rfl)
    cases pl
    cases pu
    refine getItem_tuple_rev ht (Heap.IsSliceOf.new _ .none .none vs) ps ?_ (by rw [List.size_toArray]; omega)
    exact new (.tup xs.reverse) _ ⟨by rw [List.length_reverse]; exact hz, _, r.reverse, IsTup.new _ _⟩ (q _ (I5.hok.fresh (Nat.le_refl _)))

def ItAt (t : Bool) (h : Heap) (i a : Addr) (n : Nat) : Prop := match t with
  | true => h.IsTupleIter i a n
  | false => h.IsListIter i a n
def SqAt (t : Bool) (h : Heap) (a : Addr) (xs : Array Value) : Prop := match t with
  | true => h.IsTuple a xs
  | false => h.IsList a xs
theorem ItAt.off {h h' : Heap} {i a z : Addr} {n : Nat} : ∀ {t : Bool}, ItAt t h i a n → Heap.ExtBut z h h' → i ≠ z → ItAt t h' i a n
  | true, x, e, k => Heap.IsTupleIter.extBut x e k
  | false, x, e, k => Heap.IsListIter.extBut x e k
theorem SqAt.off {h h' : Heap} {a z : Addr} {xs : Array Value} : ∀ {t : Bool}, SqAt t h a xs → Heap.ExtBut z h h' → a ≠ z → SqAt t h' a xs
  | true, x, e, k => Heap.IsTuple.extBut x e k
  | false, x, e, k => Heap.IsList.extBut x e k
theorem ItAt.at {h h' : Heap} {i a : Addr} {n : Nat} : ∀ {t : Bool}, ItAt t h i a n → (∀ o, h.get? i = some o → h'.get? i = some o) → ItAt t h' i a n
  | true, x, e => Heap.IsTupleIter.at x e
  | false, x, e => Heap.IsListIter.at x e
theorem ItAt.here {h : Heap} {i a : Addr} {n : Nat} : ∀ {t : Bool}, ItAt t h i a n → ∃ o, h.get? i = some o ∧ ∀ v, o.data ≠ .cell v
  | true, ⟨o, e, _, d⟩ => ⟨o, e, fun v q => by rw [d] at q; cases q⟩
  | false, ⟨o, e, _, d⟩ => ⟨o, e, fun v q => by rw [d] at q; cases q⟩
section
variable {prog : Program} {w : World} {A : Around} {E : Value → Shared → Prop} {s : Shared}
theorem nx_item {it l : Addr} {i : Nat} {items : Array Value} {x : Value} {Q : Value → Shared → Prop} : ∀ {t : Bool}, ItAt t s.heap it l i → SqAt t s.heap l items → items[i]? = some x →
    (∀ h', ItAt t h' it l (i + 1) → Heap.SameBut it s.heap h' → Q x { s with heap := h' }) → wpAny (model prog w) A (Builtin.SmallTypes.nextOf (.ref it)) Q E s
  | true, a, b, c, d => RZ.nextOf_tuple_item a b c d
  | false, a, b, c, d => wpAny_nextOf_list_item a b c d
theorem nx_end {it l : Addr} {i : Nat} {items : Array Value} {Q : Value → Shared → Prop} (hh : A.handled = none) : ∀ {t : Bool}, ItAt t s.heap it l i → SqAt t s.heap l items → items[i]? = none →
    (∀ h' e, Heap.ExtBut it s.heap h' → (∃ o, h'.get? e = some o ∧ o.cls = .type "StopIteration") → E (.ref e) { s with heap := h' }) → wpAny (model prog w) A (Builtin.SmallTypes.nextOf (.ref it)) Q E s
  | true, a, b, c, d => RZ.nextOf_tuple_end hh a b c d
  | false, a, b, c, d => wpAny_nextOf_list_end hh a b c d
theorem noe_item {it l : Addr} {i : Nat} {items : Array Value} {x : Value} {Q : Option Value → Shared → Prop} {t : Bool} (a : ItAt t s.heap it l i) (b : SqAt t s.heap l items) (c : items[i]? = some x)
    (d : ∀ h', ItAt t h' it l (i + 1) → Heap.SameBut it s.heap h' → Q (some x) { s with heap := h' }) : wpAny (model prog w) A (Builtin.SmallTypes.nextOrEnd (.ref it)) Q E s := by
  unfold Builtin.SmallTypes.nextOrEnd
  exact wpAny_bind (wpAny_attempt (nx_item a b c fun h' e f => wpAny_pure (d h' e f)))
theorem noe_end {it l : Addr} {i : Nat} {items : Array Value} {Q : Option Value → Shared → Prop} {t : Bool} (hh : A.handled = none) (a : ItAt t s.heap it l i) (b : SqAt t s.heap l items) (c : items[i]? = none)
    (d : ∀ h', Heap.ExtBut it s.heap h' → Q none { s with heap := h' }) : wpAny (model prog w) A (Builtin.SmallTypes.nextOrEnd (.ref it)) Q E s := by
  unfold Builtin.SmallTypes.nextOrEnd
  refine wpAny_bind (wpAny_attempt (nx_end hh a b c fun h' e f ⟨o, ho, hc⟩ => ?_))
  exact wpAny_bind (wpAny_isInstance (T := "StopIteration") (b := true) ⟨o, ho, hc⟩ isSubtype_stop (wpAny_pure (d h' f)))
/-- a zip's cell; b: strict -/
abbrev IsZ (b : Bool) (h : Heap) (z TI TO : Addr) (f0 : Value) : Prop := h.get? z = some { cls := .type "zip", dict := none, data := .fields #[f0, .bool false, .bool b, .ref TI, .ref TO], slots := #[] }
theorem zb_item {b t1 t2 : Bool} {z TI TO i1 i2 l1 l2 : Addr} {k1 k2 : Nat} {xs ys : Array Value} {x y a c : Value} {Q : Value → Shared → Prop} (D : ZipApart z TI TO i1 i2 l1 l2)
    (hz : IsZ b s.heap z TI TO .none) (hTI : IsPair s.heap TI (.ref i1) (.ref i2)) (hTO : IsPair s.heap TO a c)
    (h1 : ItAt t1 s.heap i1 l1 k1) (h2 : ItAt t2 s.heap i2 l2 k2) (hl1 : SqAt t1 s.heap l1 xs) (hl2 : SqAt t2 s.heap l2 ys) (hx : xs[k1]? = some x) (hy : ys[k2]? = some y)
    (hQ : ∀ h', IsZ b h' z TI TO (rawInt s.heap.objs.size) → IsPair h' TO x y → ItAt t1 h' i1 l1 (k1 + 1) → ItAt t2 h' i2 l2 (k2 + 1) → IsPair h' s.heap.objs.size x y →
      (∀ c o, c ≠ z → c ≠ TO → c ≠ i1 → c ≠ i2 → s.heap.get? c = some o → h'.get? c = some o) → Q (.ref s.heap.objs.size) { s with heap := h' }) :
    wpAny (model prog w) A (Builtin.«zip.__next__» ⟨[.ref z], []⟩) (fun fin s' => ∃ v, fin = .done (.ret v) ∧ Q v s') E s := by
  (show wpAny _ _ (field (.ref z) 2 >>= _) _ _ _); refine wpAny_bind (wpAny_field hz rfl (x := .bool b) rfl ?_)
  (show wpAny _ _ (field (.ref z) 3 >>= _) _ _ _); refine wpAny_bind (wpAny_field hz rfl (x := .ref TI) rfl (wpAny_bind (wpAny_seqItems hTI rfl ?_)))
  (show wpAny _ _ (Builtin.SmallTypes.ownedTupleIsFree (.ref z) >>= _) _ _ _); refine wpAny_bind ?_
  unfold Builtin.SmallTypes.ownedTupleIsFree; refine wpAny_bind (wpAny_field hz rfl (x := .none) rfl (wpAny_pure ?_))
  simp only [if_true]; refine wpAny_bind (wpAny_rule (wpAny_bind (wpAny_field hz rfl (x := .ref TO) rfl (wpAny_bind (wpAny_setField_rec hz (by simp) fun h₁ hz₁ hs₁ => ?_)))))
  replace hz₁ : IsZ b h₁ z TI TO .ellipsis := hz₁
  refine wpAny_bind ?_; simp only [List.zipIdx_cons, List.zipIdx_nil, List.forIn_cons, List.forIn_nil]
  have step1 : ∀ {R : Option Value → Shared → Prop} {E' : Value → Shared → Prop} {A' : Around}, (∀ h₂, ItAt t1 h₂ i1 l1 (k1 + 1) → Heap.SameBut i1 h₁ h₂ → R (some x) { s with heap := h₂ }) → (∀ m : Sem (Option Value), m = (if (Value.bool b == Value.bool true) = true then Builtin.SmallTypes.nextOrEnd (.ref i1) else do return some (← Builtin.SmallTypes.nextOf (.ref i1))) → wpAny (model prog w) A' m R E' { s with heap := h₁ }) := by
    rintro R E' A' hR m rfl
    cases b with
    | true => show wpAny _ _ (Builtin.SmallTypes.nextOrEnd (.ref i1)) _ _ _; exact noe_item (h1.off hs₁.extBut D.i1z) (hl1.off hs₁.extBut D.l1z) hx hR
    | false => show wpAny _ _ (Builtin.SmallTypes.nextOf (.ref i1) >>= _) _ _ _; exact wpAny_bind (nx_item (h1.off hs₁.extBut D.i1z) (hl1.off hs₁.extBut D.l1z) hx fun h₂ p q => wpAny_pure (hR h₂ p q))
  refine wpAny_bind (wpAny_bind (wpAny_onRaise (step1 (fun h₂ h1₂ hs₂ => ?_) _ rfl)))
  have hTO₂ : IsPair h₂ TO a c := hs₂.extBut _ _ D.TOi1 (hs₁.extBut _ _ D.TOz hTO)
  refine wpAny_bind (wpAny_seqItems hTO₂ rfl (wpAny_bind (wpAny_updateSeq_pair hTO₂ fun h₃ hTO₃ hs₃ => ?_)))
  replace hTO₃ : IsPair h₃ TO x c := hTO₃
  refine wpAny_bind (wpAny_letGo (wpAny_pure ?_))
  have step2 : ∀ {R : Option Value → Shared → Prop} {E' : Value → Shared → Prop} {A' : Around}, (∀ h₄, ItAt t2 h₄ i2 l2 (k2 + 1) → Heap.SameBut i2 h₃ h₄ → R (some y) { s with heap := h₄ }) → (∀ m : Sem (Option Value), m = (if (Value.bool b == Value.bool true) = true then Builtin.SmallTypes.nextOrEnd (.ref i2) else do return some (← Builtin.SmallTypes.nextOf (.ref i2))) → wpAny (model prog w) A' m R E' { s with heap := h₃ }) := by
    rintro R E' A' hR m rfl
    have hi := ((h2.off hs₁.extBut D.i2z).off hs₂.extBut D.i12.symm).off hs₃.extBut D.TOi2.symm
    have hl := ((hl2.off hs₁.extBut D.l2z).off hs₂.extBut D.l2i1).off hs₃.extBut D.l2TO
    cases b with
    | true => show wpAny _ _ (Builtin.SmallTypes.nextOrEnd (.ref i2)) _ _ _; exact noe_item (s := { s with heap := h₃ }) hi hl hy hR
    | false => show wpAny _ _ (Builtin.SmallTypes.nextOf (.ref i2) >>= _) _ _ _; exact wpAny_bind (nx_item (s := { s with heap := h₃ }) hi hl hy fun h₂ p q => wpAny_pure (hR h₂ p q))
  refine wpAny_bind (wpAny_bind (wpAny_onRaise (step2 (fun h₄ h2₄ hs₄ => ?_) _ rfl)))
  have hTO₄ : IsPair h₄ TO x c := hs₄.extBut _ _ D.TOi2 hTO₃
  refine wpAny_bind (wpAny_seqItems hTO₄ rfl (wpAny_bind (wpAny_updateSeq_pair hTO₄ fun h₅ hTO₅ hs₅ => ?_)))
  replace hTO₅ : IsPair h₅ TO x y := hTO₅
  refine wpAny_bind (wpAny_letGo (wpAny_pure (wpAny_pure (wpAny_bind (wpAny_seqItems hTO₅ rfl (wpAny_bind (wpAny_newTuple ?_)))))))
  have hsz : h₅.objs.size = s.heap.objs.size := ((((hs₅.1.trans hs₄.1).trans hs₃.1).trans hs₂.1).trans hs₁.1)
  have keep5 : ∀ c o, c ≠ z → c ≠ TO → c ≠ i1 → c ≠ i2 → s.heap.get? c = some o → h₅.get? c = some o := fun c o c1 c2 c3 c4 e => hs₅.extBut _ _ c2 (hs₄.extBut _ _ c4 (hs₃.extBut _ _ c2 (hs₂.extBut _ _ c3 (hs₁.extBut _ _ c1 e))))
  have hz5 : IsZ b h₅ z TI TO .ellipsis := hs₅.extBut _ _ D.TOz.symm (hs₄.extBut _ _ D.i2z.symm (hs₃.extBut _ _ D.TOz.symm (hs₂.extBut _ _ D.i1z.symm hz₁)))
  have it1 : ItAt t1 h₅ i1 l1 (k1 + 1) := ((h1₂.off hs₃.extBut D.TOi1.symm).off hs₄.extBut D.i12).off hs₅.extBut D.TOi1.symm
  have it2 : ItAt t2 h₅ i2 l2 (k2 + 1) := h2₄.off hs₅.extBut D.TOi2.symm
  have ltz : z < h₅.objs.size := Heap.lt_size hz5
  (show wpAny _ _ (Builtin.SmallTypes.ownedTupleHandOut (.ref z) (.ref h₅.objs.size) >>= _) _ _ _); refine wpAny_bind ?_
  unfold Builtin.SmallTypes.ownedTupleHandOut
  have hz6 : IsZ b (h₅.push { cls := .type "tuple", data := .seq #[x, y] }) z TI TO .ellipsis := Heap.get?_push_of_some _ hz5
  refine wpAny_bind (wpAny_setField_rec hz6 (by simp) fun h₇ hz₇ hs₇ => ?_)
  replace hz₇ : IsZ b h₇ z TI TO (rawInt h₅.objs.size) := hz₇
  refine wpAny_setField_rec hz₇ (by simp) fun h₈ hz₈ hs₈ => ?_
  replace hz₈ : IsZ b h₈ z TI TO (rawInt h₅.objs.size) := hz₈
  have up : ∀ c o, c ≠ z → h₅.get? c = some o → h₈.get? c = some o := fun c o c1 e => hs₈.extBut _ _ c1 (hs₇.extBut _ _ c1 (Heap.get?_push_of_some _ e))
  have hT8 : IsPair h₈ h₅.objs.size x y := hs₈.extBut _ _ (Nat.ne_of_gt ltz) (hs₇.extBut _ _ (Nat.ne_of_gt ltz) (Heap.get?_push_size _ rfl))
  rw [hsz] at hz₈ hT8
  refine wpAny_pure ⟨_, rfl, ?_⟩
  (show Q (.ref h₅.objs.size) _); rw [hsz]
  exact hQ h₈ hz₈ (up _ _ D.TOz hTO₅) (it1.at fun o e => up _ o D.i1z e) (it2.at fun o e => up _ o D.i2z e) hT8 fun c o c1 c2 c3 c4 e => up c o c1 (keep5 c o c1 c2 c3 c4 e)
def ZEnd (b : Bool) (p q : Prop) : Prop := match b with
  | true => p ∧ q
  | false => p ∨ q
theorem zb_end {b t1 t2 : Bool} {z TI TO i1 i2 l1 l2 : Addr} {k1 k2 : Nat} {xs ys : Array Value} {a c : Value} {Q : Fin → Shared → Prop} (hh : A.handled = none) (D : ZipApart z TI TO i1 i2 l1 l2)
    (hz : IsZ b s.heap z TI TO .none) (hTI : IsPair s.heap TI (.ref i1) (.ref i2)) (hTO : IsPair s.heap TO a c)
    (h1 : ItAt t1 s.heap i1 l1 k1) (h2 : ItAt t2 s.heap i2 l2 k2) (hl1 : SqAt t1 s.heap l1 xs) (hl2 : SqAt t2 s.heap l2 ys) (hend : ZEnd b (xs[k1]? = none) (ys[k2]? = none))
    (hE : ∀ h' e, (∀ c o, c ≠ z → c ≠ TO → c ≠ i1 → c ≠ i2 → s.heap.get? c = some o → h'.get? c = some o) → (∃ o, h'.get? e = some o ∧ o.cls = .type "StopIteration") → E (.ref e) { s with heap := h' }) :
    wpAny (model prog w) A (Builtin.«zip.__next__» ⟨[.ref z], []⟩) Q E s := by
  (show wpAny _ _ (field (.ref z) 2 >>= _) _ _ _); refine wpAny_bind (wpAny_field hz rfl (x := .bool b) rfl ?_)
  (show wpAny _ _ (field (.ref z) 3 >>= _) _ _ _); refine wpAny_bind (wpAny_field hz rfl (x := .ref TI) rfl (wpAny_bind (wpAny_seqItems hTI rfl ?_)))
  (show wpAny _ _ (Builtin.SmallTypes.ownedTupleIsFree (.ref z) >>= _) _ _ _); refine wpAny_bind ?_
  unfold Builtin.SmallTypes.ownedTupleIsFree; refine wpAny_bind (wpAny_field hz rfl (x := .none) rfl (wpAny_pure ?_))
  simp only [if_true]; refine wpAny_bind (wpAny_rule (wpAny_bind (wpAny_field hz rfl (x := .ref TO) rfl (wpAny_bind (wpAny_setField_rec hz (by simp) fun h₁ hz₁ hs₁ => ?_)))))
  replace hz₁ : IsZ b h₁ z TI TO .ellipsis := hz₁
  refine wpAny_bind ?_; simp only [List.zipIdx_cons, List.zipIdx_nil, List.forIn_cons, List.forIn_nil]
  refine wpAny_bind (wpAny_bind (wpAny_onRaise ?_))
  have hi1 := h1.off hs₁.extBut D.i1z
  have hq1 := hl1.off hs₁.extBut D.l1z
  cases b with
  | true =>
    obtain ⟨hx, hy⟩ := hend
    (show wpAny _ _ (Builtin.SmallTypes.nextOrEnd (.ref i1)) _ _ _); refine noe_end hh hi1 hq1 hx fun h₂ hs₂ => ?_
    have hz₂ : IsZ true h₂ z TI TO .ellipsis := hs₂ _ _ D.i1z.symm hz₁
    refine wpAny_bind (wpAny_setField_rec hz₂ (by simp) fun h₃ hz₃ hs₃ => ?_)
    have hi2 := ((h2.off hs₁.extBut D.i2z).off hs₂ D.i12.symm).off hs₃.extBut D.i2z
    have hq2 := ((hl2.off hs₁.extBut D.l2z).off hs₂ D.l2i1).off hs₃.extBut D.l2z
    have up : ∀ c o, c ≠ z → c ≠ i1 → s.heap.get? c = some o → h₃.get? c = some o := fun c o c1 c3 x => hs₃.extBut _ _ c1 (hs₂ _ _ c3 (hs₁.extBut _ _ c1 x))
    refine wpAny_bind ?_
    (show wpAny _ _ (forIn [((.ref i2 : Value), 1)] PUnit.unit _ >>= _) _ _ _); simp only [List.forIn_cons, List.forIn_nil]
    refine wpAny_bind (wpAny_bind (wpAny_bind (noe_end (s := { s with heap := h₃ }) hh hi2 hq2 hy fun h₄ hs₄ => ?_)))
    rw [if_neg (by simp)]; refine wpAny_pure (wpAny_pure (wpAny_bind (wpAny_rule ?_)))
    unfold Builtin.SmallTypes.stopIteration; refine wpAny_bind ?_; simp only [newExc, newTuple]
    refine wpAny_bind (wpAny_newObj_type (wpAny_bind (m := firstArgMember _ _) (wpAny_of_eq (a := Value.none) (by first | rfl | (simp only [firstArgMember]; rfl)) (wpAny_newObj_type ?_ (by size_fits)))) (by size_fits))
    simp only [raiseNew]; refine wpAny_bind (wpAny_handled ?_)
    rw [hh]; refine wpAny_bind (wpAny_pure (wpAny_throw ?_))
    exact hE _ _ (fun c o c1 c2 c3 c4 q => Heap.get?_push_of_some _ (Heap.get?_push_of_some _ (hs₄ _ _ c4 (up c o c1 c3 q)))) ⟨_, Heap.get?_push_size _ rfl, rfl⟩
  | false =>
    (show wpAny _ _ (Builtin.SmallTypes.nextOf (.ref i1) >>= _) _ _ _)
    cases hx : xs[k1]? with
    | none =>
      refine wpAny_bind (nx_end hh hi1 hq1 hx fun h₂ e hs₂ ⟨oe, hoe, hce⟩ => ?_)
      have hz₂ : IsZ false h₂ z TI TO .ellipsis := hs₂ _ _ D.i1z.symm hz₁
      have hez : e ≠ z := fun x => by rw [x, hz₂] at hoe; cases hoe; simp at hce
      exact wpAny_setField_rec hz₂ (by simp) fun h₃ _ hs₃ => hE h₃ e (fun c o c1 _ c3 _ x => hs₃.extBut _ _ c1 (hs₂ _ _ c3 (hs₁.extBut _ _ c1 x))) ⟨oe, hs₃.extBut _ _ hez hoe, hce⟩
    | some x =>
      have hy : ys[k2]? = none := hend.elim (fun h => by rw [hx] at h; cases h) id
      refine wpAny_bind (nx_item hi1 hq1 hx fun h₂ h1₂ hs₂ => wpAny_pure ?_)
      have hTO₂ : IsPair h₂ TO a c := hs₂.extBut _ _ D.TOi1 (hs₁.extBut _ _ D.TOz hTO)
      refine wpAny_bind (wpAny_seqItems hTO₂ rfl (wpAny_bind (wpAny_updateSeq_pair hTO₂ fun h₃ hTO₃ hs₃ => wpAny_bind (wpAny_letGo (wpAny_pure (wpAny_bind (wpAny_bind (wpAny_onRaise ?_))))))))
      (show wpAny _ _ (Builtin.SmallTypes.nextOf (.ref i2) >>= _) _ _ _)
      refine wpAny_bind (nx_end (s := { s with heap := h₃ }) hh (((h2.off hs₁.extBut D.i2z).off hs₂.extBut D.i12.symm).off hs₃.extBut D.TOi2.symm) (((hl2.off hs₁.extBut D.l2z).off hs₂.extBut D.l2i1).off hs₃.extBut D.l2TO) hy fun h₄ e hs₄ ⟨oe, hoe, hce⟩ => ?_)
      have hz₄ : IsZ false h₄ z TI TO .ellipsis := hs₄ _ _ D.i2z.symm (hs₃.extBut _ _ D.TOz.symm (hs₂.extBut _ _ D.i1z.symm hz₁))
      have hez : e ≠ z := fun x => by rw [x, hz₄] at hoe; cases hoe; simp at hce
      exact wpAny_setField_rec hz₄ (by simp) fun h₅ _ hs₅ => hE h₅ e (fun c o c1 c2 c3 c4 x => hs₅.extBut _ _ c1 (hs₄ _ _ c4 (hs₃.extBut _ _ c2 (hs₂.extBut _ _ c3 (hs₁.extBut _ _ c1 x))))) ⟨oe, hs₅.extBut _ _ hez hoe, hce⟩
theorem pn_item {b t1 t2 : Bool} {z TI TO i1 i2 l1 l2 : Addr} {k1 k2 : Nat} {xs ys : Array Value} {x y a c : Value} {Q : Option Value → Shared → Prop} (D : ZipApart z TI TO i1 i2 l1 l2)
    (hz : IsZ b s.heap z TI TO .none) (hTI : IsPair s.heap TI (.ref i1) (.ref i2)) (hTO : IsPair s.heap TO a c)
    (h1 : ItAt t1 s.heap i1 l1 k1) (h2 : ItAt t2 s.heap i2 l2 k2) (hl1 : SqAt t1 s.heap l1 xs) (hl2 : SqAt t2 s.heap l2 ys) (hx : xs[k1]? = some x) (hy : ys[k2]? = some y)
    (hQ : ∀ h', IsZ b h' z TI TO (rawInt s.heap.objs.size) → IsPair h' TO x y → ItAt t1 h' i1 l1 (k1 + 1) → ItAt t2 h' i2 l2 (k2 + 1) → IsPair h' s.heap.objs.size x y →
      (∀ c o, c ≠ z → c ≠ TO → c ≠ i1 → c ≠ i2 → s.heap.get? c = some o → h'.get? c = some o) → Q (some (.ref s.heap.objs.size)) { s with heap := h' }) :
    wpAny (model prog w) A (pyNext (.ref z)) Q E s := by
  have hT : s.TypeIs (.ref z) "zip" := ⟨_, hz, rfl⟩
  unfold pyNext; exact wpAny_bind (wpAny_attempt (wpAny_callSpecial?_slot (name := Str.ofString "__next__") hT F.slot_zip_next (wpAny_call_entry F.slot_zip_next hT F.entry_zip_next
    (zb_item D hz hTI hTO h1 h2 hl1 hl2 hx hy fun h' a1 a2 a3 a4 a5 a6 => wpAny_pure (hQ h' a1 a2 a3 a4 a5 a6)) (F.args_zip_next_1 _))))
theorem pn_end {b t1 t2 : Bool} {z TI TO i1 i2 l1 l2 : Addr} {k1 k2 : Nat} {xs ys : Array Value} {a c : Value} {Q : Option Value → Shared → Prop} (hh : A.handled = none) (D : ZipApart z TI TO i1 i2 l1 l2)
    (hz : IsZ b s.heap z TI TO .none) (hTI : IsPair s.heap TI (.ref i1) (.ref i2)) (hTO : IsPair s.heap TO a c)
    (h1 : ItAt t1 s.heap i1 l1 k1) (h2 : ItAt t2 s.heap i2 l2 k2) (hl1 : SqAt t1 s.heap l1 xs) (hl2 : SqAt t2 s.heap l2 ys) (hend : ZEnd b (xs[k1]? = none) (ys[k2]? = none))
    (hQ : ∀ h', (∀ c o, c ≠ z → c ≠ TO → c ≠ i1 → c ≠ i2 → s.heap.get? c = some o → h'.get? c = some o) → Q none { s with heap := h' }) : wpAny (model prog w) A (pyNext (.ref z)) Q E s := by
  have hT : s.TypeIs (.ref z) "zip" := ⟨_, hz, rfl⟩
  unfold pyNext; refine wpAny_bind (wpAny_attempt (wpAny_callSpecial?_slot (name := Str.ofString "__next__") hT F.slot_zip_next (wpAny_call_entry F.slot_zip_next hT F.entry_zip_next
    (zb_end hh D hz hTI hTO h1 h2 hl1 hl2 hend fun h' e hk ⟨o, ho, hc⟩ => ?_) (F.args_zip_next_1 _))))
  exact wpAny_bind (wpAny_isInstance (T := "StopIteration") (b := true) ⟨o, ho, hc⟩ isSubtype_stop (wpAny_pure (hQ _ hk)))
theorem let_go_zb {b : Bool} {elts : List Expr} {x1} {pos : Pos} {z TI TO T : Addr} {Q : Unit → Shared → Prop} (hz : IsZ b s.heap z TI TO (rawInt T))
    (hQ : ∀ h', IsZ b h' z TI TO .none → Heap.SameBut z s.heap h' → Q () { s with heap := h' }) :
    wpAny (model prog w) A (letOwnedTupleGo (.Tuple elts x1 pos) (.ref z) (.ref T)) Q E s := by
  unfold letOwnedTupleGo; refine wpAny_bind (wpAny_load hz ?_)
  (show wpAny _ _ (if (["enumerate", "zip", "dict_itemiterator", "dict_reverseitemiterator", "odict_iterator", "itertools.zip_longest", "itertools.pairwise"].contains "zip" && (#[rawInt T, .bool false, .bool b, .ref TI, .ref TO] : Array Value)[0]? == some (rawInt T)) = true then _ else _) Q E s)
  rw [if_pos (by simp)]; refine wpAny_bind (wpAny_rule ?_)
  (show wpAny _ _ (setField (.ref z) 0 .none) Q E s); exact wpAny_setField_rec hz (by simp) fun h' hz' hs' => hQ h' hz' hs'
theorem py_iter_zb {b : Bool} {z TI TO : Addr} {f0 : Value} {Q : Value → Shared → Prop} (hz : IsZ b s.heap z TI TO f0) (h : Q (.ref z) s) : wpAny (model prog w) A (pyIter (.ref z)) Q E s := by
  have hT : s.TypeIs (.ref z) "zip" := ⟨_, hz, rfl⟩
  refine wpAny_pyIter_slot hT F.slot_zip_iter (wpAny_call_entry F.slot_zip_iter hT F.entry_zip_iter (?_ : wpAny _ _ (ret (.ref z)) _ _ s) (F.args_zip_iter_1 _))
  exact wpAny_pure ⟨_, rfl, "zip", _, hT, F.slot_zip_next.lookup, h⟩
end
/-! ### the turns -/
def SqK (K : PySem.W.Frag) (H : Hp) (a : Addr) (t : Bool) (xs : List V) : Prop := match t with
  | true => SqT K H a xs
  | false => SqL K H a xs
/-- the rows at a and c as they stand at each turn, the items in new pairs -/
def ItzB (K : PySem.W.Frag) (b t1 t2 : Bool) (a c : Addr) : It :=
  ⟨fun i H => ∃ (xs ys : List V) (x y : V), SqK K H a t1 xs ∧ SqK K H c t2 ys ∧ xs[i]? = some x ∧ ys[i]? = some y,
    fun i H v H' => ∃ T x y, v = .ref T ∧ H T = none ∧ H' = upd H T (.tup [x, y]) ∧ (∀ xs, SqK K H a t1 xs → xs[i]? = some x) ∧ ∀ ys, SqK K H c t2 ys → ys[i]? = some y,
    fun i H => ∃ xs ys : List V, SqK K H a t1 xs ∧ SqK K H c t2 ys ∧ ZEnd b (xs.length ≤ i) (ys.length ≤ i)⟩
theorem sqk_at {X : Cx} {pins : List (Addr × Obj)} {σ : L2.St} {H : Hp} {s : Shared} (I : Inv X pins σ H s) {a : Addr} {xs : List V} : ∀ {t : Bool}, SqK X.K H a t xs → ∃ its : List Value, Vals xs its ∧ SqAt t s.heap a its.toArray ∧ a < s.heap.objs.size
  | true, h => by
    obtain ⟨its, rv, p, _⟩ := I.tuple h
    obtain ⟨o, e, _⟩ := id p
    exact ⟨its, rv, p, Heap.lt_size e⟩
  | false, h => by
    obtain ⟨its, rv, p, _⟩ := I.list h
    exact ⟨its, rv, p.isList, p.lt⟩
theorem sqk_inj {X : Cx} {pins : List (Addr × Obj)} {σ : L2.St} {H : Hp} {s : Shared} (I : Inv X pins σ H s) {a : Addr} {xs ys : List V} : ∀ {t : Bool}, SqK X.K H a t xs → SqK X.K H a t ys → xs = ys
  | true, h, h' => I.tuple_inj h h'
  | false, h, h' => I.list_inj h h'
theorem turn_zb {P : Program} {w : World} {K : PySem.W.Frag} {elts : List Expr} {kk : Nat} {tpos : Pos} {b t1 t2 : Bool} {a c z TI TO i1 i2 : Addr} (D : ZipApart z TI TO i1 i2 a c) :
    Turn P w K (.Tuple elts kk tpos) (ItzB K b t1 t2 a c) [z, TI, TO, i1, i2] z (fun i h => IsZ b h z TI TO .none ∧ IsPair h TI (.ref i1) (.ref i2) ∧ (∃ x y, IsPair h TO x y) ∧ ItAt t1 h i1 a i ∧ ItAt t2 h i2 c i) where
  mem := by simp
  obj := fun i h st d hd => by
    obtain ⟨hz, hTI, ⟨x, y, hTO⟩, h1, h2⟩ := st
    have e' : d = z ∨ d = TI ∨ d = TO ∨ d = i1 ∨ d = i2 := by simpa using hd
    rcases e' with rfl | rfl | rfl | rfl | rfl
    · exact ⟨_, hz, fun v q => nomatch q⟩
    · exact ⟨_, hTI, fun v q => nomatch q⟩
    · exact ⟨_, hTO, fun v q => nomatch q⟩
    · exact h1.here
    · exact h2.here
  keep := fun i h h' ⟨hz, hTI, ⟨x, y, hTO⟩, h1, h2⟩ k => ⟨k z (by simp) _ hz, k TI (by simp) _ hTI, ⟨x, y, k TO (by simp) _ hTO⟩, h1.at fun o q => k i1 (by simp) o q, h2.at fun o q => k i2 (by simp) o q⟩
  item := by
    intro X hP hw hK hc i pins s σ H E I hf st hg
    subst hP hw hK
    obtain ⟨hz, hTI, ⟨x0, y0, hTO⟩, h1, h2⟩ := st
    obtain ⟨xs, ys, x, y, hqx, hqy, hx, hy⟩ := hg
    obtain ⟨its, rv, p, _⟩ := sqk_at I hqx
    obtain ⟨its2, rv2, p2, _⟩ := sqk_at I hqy
    obtain ⟨u, hu, ru⟩ := rv.get hx
    obtain ⟨u2, hu2, ru2⟩ := rv2.get hy
    have hzl : z < s.heap.objs.size := Heap.lt_size hz
    refine pn_item D hz hTI hTO h1 h2 p p2 (x := u) (y := u2) (by simpa using hu) (by simpa using hu2) fun h' z' TO' h1' h2' hT hk => ⟨_, rfl, let_go_zb (s := { s with heap := h' }) z' fun h'' z'' sb => ?_⟩
    have both : ∀ d o, d ≠ z → d ≠ TO → d ≠ i1 → d ≠ i2 → s.heap.get? d = some o → h''.get? d = some o := fun d o n1 n2 n3 n4 q => (sb.2 d n1).trans (hk d o n1 n2 n3 n4 q)
    have hT2 : h''.get? s.heap.objs.size = some { cls := .type "tuple", data := .seq #[u, u2] } := (sb.2 _ (Nat.ne_of_gt hzl)).trans hT
    have new : ObjOk X.prog X.w (upd H s.heap.objs.size (.tup [x, y])) h'' s.heap.objs.size (.tup [x, y]) := ⟨(by decide : 2 ≤ sizeLine), [u, u2], .cons ru (.cons ru2 .nil), ⟨_, hT2, rfl, _, rfl⟩⟩
    have I1 : Inv X pins σ (upd H s.heap.objs.size (.tup [x, y])) { s with heap := h'' } :=
      I.turnedNew (t' := s.toks) (ch := [z, TI, TO, i1, i2]) (fun d o hb q => both d o (fun q' => hb (by simp [q'])) (fun q' => hb (by simp [q'])) (fun q' => hb (by simp [q'])) (fun q' => hb (by simp [q'])) q) hf (Nat.le_refl _) new
    refine ⟨.ref s.heap.objs.size, _, I1, rfl, ⟨_, x, y, rfl, I.hok.fresh (Nat.le_refl _), rfl, fun l hl => by rw [sqk_inj I hl hqx]; exact hx, fun l hl => by rw [sqk_inj I hl hqy]; exact hy⟩, ⟨z'', both _ _ D.TIz D.TITO D.TIi1 D.TIi2 hTI, ⟨u, u2, (sb.2 _ D.TOz).trans TO'⟩, h1'.at fun o q => (sb.2 _ D.i1z).trans q, h2'.at fun o q => (sb.2 _ D.i2z).trans q⟩, fun d hd => ?_⟩
    have hlt : d < s.heap.objs.size := by
      have e' : d = z ∨ d = TI ∨ d = TO ∨ d = i1 ∨ d = i2 := by simpa using hd
      rcases e' with q | q | q | q | q
      · rw [q]; exact hzl
      · rw [q]; exact Heap.lt_size hTI
      · rw [q]; exact Heap.lt_size hTO
      · rw [q]; obtain ⟨_, e1, _⟩ := h1.here; exact Heap.lt_size e1
      · rw [q]; obtain ⟨_, e2, _⟩ := h2.here; exact Heap.lt_size e2
    rw [upd_ne (Nat.ne_of_lt hlt)]
    exact (hf d hd).1
  done := by
    intro X hP hw hK hc i pins s σ H E I hf st hg
    subst hP hw hK
    obtain ⟨hz, hTI, ⟨x0, y0, hTO⟩, h1, h2⟩ := st
    obtain ⟨xs, ys, hqx, hqy, hend⟩ := hg
    obtain ⟨its, rv, p, _⟩ := sqk_at I hqx
    obtain ⟨its2, rv2, p2, _⟩ := sqk_at I hqy
    have l1 := rv.length
    have l2 := rv2.length
    have he : ZEnd b (its.toArray[i]? = none) (its2.toArray[i]? = none) := by
      cases b with
      | true => exact ⟨by have := hend.1; simp; omega, by have := hend.2; simp; omega⟩
      | false => exact hend.elim (fun q => .inl (by simp; omega)) fun q => .inr (by simp; omega)
    exact pn_end (I.ok.hd hc) D hz hTI hTO h1 h2 p p2 he fun h' hk => ⟨rfl, I.turnedL (t' := s.toks) (ch := [z, TI, TO, i1, i2]) (fun d o hb q => hk d o (fun q' => hb (by simp [q'])) (fun q' => hb (by simp [q'])) (fun q' => hb (by simp [q'])) (fun q' => hb (by simp [q'])) q) hf⟩
  self := fun A i s Q E st h => py_iter_zb st.1 h
/-! ### the calls -/
theorem callWith_tkw {M : Model} {A : Around} {E : Value → Shared → Prop} {s : Shared} {pos : Pos} {T : String} {args : List (Bool × Sem Value)} {ks : List (Option Str × Sem Value)} {Q : Value → Shared → Prop} (hp : args.any (·.1) = false) (hk : ks.any (·.1.isNone) = false)
    (h : wpAny M A (evalArgs (.type T) true args ks) (fun a s₁ => wpAny M A (call (.type T) ([] ++ a.pos) a.kw) Q E s₁) E s) : wpAny M A (callWith pos (.type T) [] args ks) Q E s := by
  unfold callWith
  refine wpAny_bind (wpAny_holding (wpAny_mono h (fun a s₁ g => wpAny_bind (wpAny_standAt ?_)) fun _ _ x => x))
  simp only [hp, hk, Bool.or_false]
  exact wpAny_bind (wpAny_pure (wpAny_bind (wpAny_mono g (fun r s₂ hr => wpAny_bind (wpAny_holding (wpAny_point (wpAny_pure hr)))) fun _ _ x => x)))
namespace F
theorem tc_zip_s (a b v : Value) : checkTypeCall "zip" ⟨[a, b], [(Str.ofString "strict", v)]⟩ = pure () := by kernel_rfl
theorem nc_zip_s (a b v : Value) : checkBuiltinCall "zip.__new__" ⟨[.type "zip", a, b], [(Str.ofString "strict", v)]⟩ = pure () := by kernel_rfl
theorem oi_zip_s (obj a b v : Value) : argsOk "object.__init__" ⟨[obj, a, b], [(Str.ofString "strict", v)]⟩ := by unfold argsOk; kernel_rfl
end F
abbrev zsT (h : Heap) (o1 o2 : Obj) : Heap := ((h.push o1).push o2).push { cls := .type "tuple", data := .seq #[.ref h.objs.size, .ref (h.push o1).objs.size] }
abbrev zsO (h : Heap) (o1 o2 : Obj) : Heap := (zsT h o1 o2).push { cls := .type "tuple", data := .seq #[.none, .none] }
abbrev zsZ (h : Heap) (o1 o2 : Obj) : Heap := (zsO h o1 o2).push { cls := .type "zip", data := .fields #[.none, .bool false, .bool true, .ref ((h.push o1).push o2).objs.size, .ref (zsT h o1 o2).objs.size] }
theorem meets_zs {v1 v2 : Value} {o1 o2 : Obj} {H1 H2 : Heap → Prop} (B1 : PySem.Begins v1 o1 H1) (B2 : PySem.Begins v2 o2 H2) :
    Meets (Builtin.«zip.__new__» ⟨[.type "zip", v1, v2], [(Str.ofString "strict", .bool true)]⟩) (fun _ R s => (H1 s.heap ∧ H2 s.heap) ∧ R (.ok (.ret (.ref (zsO s.heap o1 o2).objs.size))) { s with heap := zsZ s.heap o1 o2 }) :=
  .of_wp fun prog w A R s h => by
    obtain ⟨hp, g, d, tk, os⟩ := s; obtain ⟨⟨h1, h2⟩, h⟩ := h
    have hsub := sub_zip
    have q1 : ∀ {A' : Around} {E : Value → Shared → Prop} {Q : Value → Shared → Prop}, Q (.ref hp.objs.size) ⟨(hp.push o1), g, d, tk, os⟩ → wpAny (model prog w) A' (pyIter v1) Q E ⟨hp, g, d, tk, os⟩ := fun q => B1.iter prog w _ _ ⟨hp, g, d, tk, os⟩ _ (B1.keeps _ _ h1 fun b o' e => e) q
    have q2 : ∀ {A' : Around} {E : Value → Shared → Prop} {Q : Value → Shared → Prop}, Q (.ref (hp.push o1).objs.size) ⟨((hp.push o1).push o2), g, d, tk, os⟩ → wpAny (model prog w) A' (pyIter v2) Q E ⟨(hp.push o1), g, d, tk, os⟩ := fun q => B2.iter prog w _ _ ⟨(hp.push o1), g, d, tk, os⟩ _ (B2.keeps _ _ h2 fun b o' e => (Heap.get?_push_of_some _ e)) q
    have e2 : (Str.ofString "strict" != ("strict" : Str)) = false := by decide +kernel
    wp_walk using q1, q2
    exact ⟨_, rfl, h⟩
section
variable {prog : Program} {w : World} {A : Around} {E : Value → Shared → Prop} {s : Shared}
theorem zip_begS {v1 v2 : Value} {o1 o2 : Obj} {H1 H2 : Heap → Prop} {Q : Value → Shared → Prop} (B1 : PySem.Begins v1 o1 H1) (B2 : PySem.Begins v2 o2 H2) (h1 : H1 s.heap) (h2 : H2 s.heap)
    (h : ∀ h', IsZ true h' (s.heap.objs.size + 4) (s.heap.objs.size + 2) (s.heap.objs.size + 3) .none → IsPair h' (s.heap.objs.size + 2) (.ref s.heap.objs.size) (.ref (s.heap.objs.size + 1)) →
      IsPair h' (s.heap.objs.size + 3) .none .none → h'.get? s.heap.objs.size = some o1 → h'.get? (s.heap.objs.size + 1) = some o2 →
      (∀ c o, s.heap.get? c = some o → h'.get? c = some o) → Q (.ref (s.heap.objs.size + 4)) { s with heap := h' }) :
    wpAny (model prog w) A (call (.type "zip") [v1, v2] [(Str.ofString "strict", .bool true)]) Q E s := by
  refine callType_newKw F.called_zip (by decide) (F.tc_zip_s _ _ _) (F.nc_zip_s _ _ _) (fun obj => F.oi_zip_s obj _ _ _) F.entry_zip_new (meets_zs B1 B2) ⟨⟨h1, h2⟩, ?_⟩
  have z1 : (s.heap.push o1).objs.size = s.heap.objs.size + 1 := Heap.size_push ..
  have z2 : ((s.heap.push o1).push o2).objs.size = s.heap.objs.size + 2 := (Heap.size_push ..).trans (congrArg (· + 1) z1)
  have zT : (zsT s.heap o1 o2).objs.size = s.heap.objs.size + 3 := (Heap.size_push ..).trans (congrArg (· + 1) z2)
  have zO : (zsO s.heap o1 o2).objs.size = s.heap.objs.size + 4 := (Heap.size_push ..).trans (congrArg (· + 1) zT)
  have gZ : (zsZ s.heap o1 o2).get? (zsO s.heap o1 o2).objs.size = some { cls := .type "zip", data := .fields #[.none, .bool false, .bool true, .ref ((s.heap.push o1).push o2).objs.size, .ref (zsT s.heap o1 o2).objs.size] } := Heap.get?_push_size (zsO s.heap o1 o2) rfl
  have gO : (zsZ s.heap o1 o2).get? (zsT s.heap o1 o2).objs.size = some _ := Heap.get?_push_of_some _ (Heap.get?_push_size _ rfl)
  have gT : (zsZ s.heap o1 o2).get? ((s.heap.push o1).push o2).objs.size = some _ := Heap.get?_push_of_some _ (Heap.get?_push_of_some _ (Heap.get?_push_size _ rfl))
  have g1 : (zsZ s.heap o1 o2).get? s.heap.objs.size = some _ := Heap.get?_push_of_some _ (Heap.get?_push_of_some _ (Heap.get?_push_of_some _ (Heap.get?_push_of_some _ (Heap.get?_push_size _ B1.free))))
  have g2 : (zsZ s.heap o1 o2).get? (s.heap.push o1).objs.size = some _ := Heap.get?_push_of_some _ (Heap.get?_push_of_some _ (Heap.get?_push_of_some _ (Heap.get?_push_size _ B2.free)))
  rw [zO, zT, z2] at gZ; rw [zT] at gO; rw [z2, z1] at gT; rw [z1] at g2
  show _ ∧ _
  rw [zO]
  exact ⟨⟨_, gZ, rfl⟩, h _ gZ gT gO g1 g2 fun c o e => Heap.get?_push_of_some _ (Heap.get?_push_of_some _ (Heap.get?_push_of_some _ (Heap.get?_push_of_some _ (Heap.get?_push_of_some _ e))))⟩
end
def itO (t : Bool) (a : Addr) : Obj := match t with
  | true => { cls := .type "tuple_iterator", data := .fields #[.ref a, .int 0 0] }
  | false => { cls := .type "list_iterator", data := .fields #[.ref a, .int 0 0] }
theorem beg_k (t : Bool) (a : Addr) (items : Array Value) : PySem.Begins (.ref a) (itO t a) fun h => SqAt t h a items := match t with
  | true => begins_tuple a items
  | false => begins_list a items
theorem it0 {t : Bool} {h : Heap} {i a : Addr} (e : h.get? i = some (itO t a)) : ItAt t h i a 0 := match t, e with
  | true, e => ⟨_, e, rfl, rfl⟩
  | false, e => ⟨_, e, rfl, rfl⟩
def tZip (K : PySem.W.Frag) (b : Bool) (ta : TA) : TI := fun σ H R => ta σ H fun vs H1 => ∃ a c t1 t2 xs ys, vs = [.ref a, .ref c] ∧ SqK K H1 a t1 xs ∧ SqK K H1 c t2 ys ∧ R (ItzB K b t1 t2 a c) H1
theorem fp5 {X : Cx} {pins : List (Addr × Obj)} {σ : L2.St} {H : Hp} {s : Shared} (I : Inv X pins σ H s) : ∀ c, c ∈ [s.heap.objs.size + 4, s.heap.objs.size + 2, s.heap.objs.size + 3, s.heap.objs.size, s.heap.objs.size + 1] → FpOk X pins H c := fun c hc => by
  have hle : s.heap.objs.size ≤ c := by
    have e' : c = s.heap.objs.size + 4 ∨ c = s.heap.objs.size + 2 ∨ c = s.heap.objs.size + 3 ∨ c = s.heap.objs.size ∨ c = s.heap.objs.size + 1 := by simpa using hc
    rcases e' with z | z | z | z | z <;> (rw [z]; simp)
  exact I.fpOk hle (I.hok.fresh hle)
theorem pi_zb {X : Cx} {e e2 : Expr} {ta : TA} {p pos tpos : Pos} {elts : List Expr} {kk : Nat} (hg : Gl X "zip") (hm : X.mg "zip" = none) (ha : PA X [e, e2] ta)
    (hs : starEach [e, e2] X.env = (false, eval e X.env) :: starEach [e2] X.env := by rfl) (hpl : (backTo pos (starEach [e2] X.env)).any (·.1) = false := by rfl) :
    PI X (.Tuple elts kk tpos) (.Call (.Name "zip" p) [e, e2] [] pos) (tZip X.K false ta) := by
  refine ⟨fun pins s σ H R I h => ?_⟩
  refine Call_ (ld_blt I hg hm PyProof.Rows.boot_zip (PyProof.Rows.callWith_type1 (thn (ha.run pos pins s σ H _ I h) fun us s1 ⟨vs, H1, I1, r1, a, c, t1, t2, xs, ys, ex, hqx, hqy, q⟩ => ?_) hs hpl))
  subst ex
  cases r1 with
  | cons r rr =>
    cases rr with
    | cons r' rr =>
      cases rr; cases r; cases r'
      obtain ⟨its, rv, p1, la⟩ := sqk_at I1 hqx
      obtain ⟨its2, rv2, p2, lc⟩ := sqk_at I1 hqy
      refine zip_begins2 (beg_k t1 a its.toArray) (beg_k t2 c its2.toArray) p1 p2 fun h' hz hTI hTO h1 h2 hsz hk => py_iter_zb (b := false) hz ?_
      exact ⟨_, _, _, _, H1, rfl, I1.kept (t' := s1.toks) hk, turn_zb (PySem.W.ktu_apart s1.heap.objs.size a c la lc), ⟨hz, hTI, ⟨_, _, hTO⟩, it0 h1, it0 h2⟩, fp5 I1, q⟩
theorem pi_zs {X : Cx} {e e2 : Expr} {ta : TA} {p pos tpos kp kpos : Pos} {elts : List Expr} {kk kj : Nat} (hg : Gl X "zip") (hm : X.mg "zip" = none) (ha : PA X [e, e2] ta)
    (hs : starEach [e, e2] X.env = (false, eval e X.env) :: starEach [e2] X.env := by rfl) (hpl : (backTo pos (starEach [e, e2] X.env)).any (·.1) = false := by rfl) :
    PI X (.Tuple elts kk tpos) (.Call (.Name "zip" p) [e, e2] [⟨some "strict", .Constant (.bool true) kj kp, kpos⟩] pos) (tZip X.K true ta) := by
  refine ⟨fun pins s σ H R I h => ?_⟩
  refine wpAny_Call_Name_kw (ld_blt I hg hm PyProof.Rows.boot_zip (callWith_tkw hpl rfl (evalArgs_kw2 rfl (thn (ha.run pos pins s σ H _ I h) fun us s1 ⟨vs, H1, I1, r1, a, c, t1, t2, xs, ys, ex, hqx, hqy, q⟩ => kwAll_cons ?_) hs)))
  refine thn (pe_bl.run pins s1 σ H1 (fun v H2 => v = .bl true ∧ H2 = H1) I1 ⟨rfl, rfl⟩) fun vb s2 ⟨v, H2, I2, rb, ev, eh⟩ => kwAll_nil ?_
  subst ex ev eh
  cases rb
  cases r1 with
  | cons r rr =>
    cases rr with
    | cons r' rr =>
      cases rr; cases r; cases r'
      obtain ⟨its, rv, p1, la⟩ := sqk_at I2 hqx
      obtain ⟨its2, rv2, p2, lc⟩ := sqk_at I2 hqy
      refine zip_begS (beg_k t1 a its.toArray) (beg_k t2 c its2.toArray) p1 p2 fun h' hz hTI hTO h1 h2 hk => py_iter_zb hz ?_
      exact ⟨_, _, _, _, H2, rfl, I2.kept (t' := s2.toks) hk, turn_zb (PySem.W.ktu_apart s2.heap.objs.size a c la lc), ⟨hz, hTI, ⟨_, _, hTO⟩, it0 h1, it0 h2⟩, fp5 I2, q⟩

section
variable {prog : Program} {w : World} {A : Around} {E : Value → Shared → Prop} {s : Shared}
theorem en_item {t : Bool} {e it l : Addr} {i : Nat} {items : Array Value} {x old : Value} {Q : Value → Shared → Prop} (he : IsEnum s.heap e it i old) (hit : ItAt t s.heap it l i) (hl : SqAt t s.heap l items) (hx : items[i]? = some x) (hne : e ≠ it)
    (hQ : ∀ h', IsEnumOut h' e it ((i : Int) + 1) x s.heap.objs.size → ItAt t h' it l (i + 1) → h'.get? s.heap.objs.size = some { cls := .type "tuple", data := .seq #[.int i s.toks, x] } → h'.objs.size = s.heap.objs.size + 1 →
      (∀ b o, b ≠ e → b ≠ it → s.heap.get? b = some o → h'.get? b = some o) → Q (.ref s.heap.objs.size) { s with heap := h', toks := s.toks + 1 }) :
    wpAny (model prog w) A (Builtin.«enumerate.__next__» ⟨[.ref e], []⟩) (fun fin s' => ∃ v, fin = .done (.ret v) ∧ Q v s') E s := by
  obtain ⟨hp, g, d, tk, os⟩ := s
  (show wpAny _ _ (field (.ref e) 2 >>= _) _ _ _); refine wpAny_bind (wpAny_field he rfl (x := .ref it) rfl (wpAny_bind (nx_item hit hl hx fun h₁ hit₁ hs₁ => ?_)))
  replace hs₁ : Heap.SameBut it hp h₁ := hs₁
  have e1 : IsEnum h₁ e it i old := (hs₁.2 e hne).trans he
  (show wpAny _ _ (field (.ref e) 3 >>= _) _ _ ⟨h₁, g, d, tk, os⟩); refine wpAny_bind (wpAny_field e1 rfl (x := rawInt i) rfl ?_)
  (show wpAny _ _ (field (.ref e) 4 >>= _) _ _ ⟨h₁, g, d, tk, os⟩); refine wpAny_bind (wpAny_field e1 rfl (x := .none) rfl ?_)
  (show wpAny _ _ (mkInt i >>= _) _ _ ⟨h₁, g, d, tk, os⟩); refine wpAny_bind (wpAny_mkInt ?_)
  (show wpAny _ _ (setField (.ref e) 3 (rawInt ((i : Int) + 1)) >>= _) _ _ ⟨h₁, g, d, tk + 1, os⟩); refine wpAny_bind (wpAny_setField_rec e1 (by simp) fun h₂ e2 hs₂ => ?_)
  replace hs₂ : Heap.SameBut e h₁ h₂ := hs₂
  replace e2 : IsEnum h₂ e it ((i : Int) + 1) old := e2
  (show wpAny _ _ (setField (.ref e) 4 .none >>= _) _ _ ⟨h₂, g, d, tk + 1, os⟩); refine wpAny_bind (wpAny_setField_rec e2 (by simp) fun h₃ e3 hs₃ => ?_)
  replace hs₃ : Heap.SameBut e h₂ h₃ := hs₃
  replace e3 : IsEnum h₃ e it ((i : Int) + 1) old := e3
  (show wpAny _ _ (newTuple [.int i tk, x] >>= _) _ _ ⟨h₃, g, d, tk + 1, os⟩); refine wpAny_bind (wpAny_newTuple ?_)
  have e4 : IsEnum (h₃.push { cls := .type "tuple", data := .seq #[.int i tk, x] }) e it ((i : Int) + 1) old := Heap.get?_push_of_some _ e3
  generalize hh : h₃.push { cls := .type "tuple", data := .seq #[.int i tk, x] } = h₄ at e4
  have hsz : h₃.objs.size = hp.objs.size := (hs₃.1.trans hs₂.1).trans hs₁.1
  have hel : e < hp.objs.size := Heap.lt_size he
  have t4 : h₄.get? hp.objs.size = some { cls := .type "tuple", data := .seq #[.int i tk, x] } := by rw [← hh, ← hsz]; exact Heap.get?_push_size _ rfl
  have z4 : h₄.objs.size = hp.objs.size + 1 := by rw [← hh, Heap.size_push, hsz]
  have k4 : ∀ b o, b ≠ e → b ≠ it → hp.get? b = some o → h₄.get? b = some o := fun b o hbe hbi hb => by rw [← hh]; exact Heap.get?_push_of_some _ (hs₃.extBut b o hbe (hs₂.extBut b o hbe (hs₁.extBut b o hbi hb)))
  have i4 : ItAt t h₄ it l (i + 1) := by rw [← hh]; exact ((hit₁.off hs₂.extBut hne.symm).off hs₃.extBut hne.symm).at fun o q => Heap.get?_push_of_some _ q
  (show wpAny _ _ (Builtin.SmallTypes.ownedTupleIsFree (.ref e) >>= _) _ _ ⟨h₄, g, d, tk + 1, os⟩); rw [hsz]
  clear hh e3 hs₃ e2 hs₂ e1 hs₁ hit₁ hsz h₃ h₂ h₁
  refine wpAny_bind ?_
  unfold Builtin.SmallTypes.ownedTupleIsFree; refine wpAny_bind (wpAny_field e4 rfl (x := .none) rfl (wpAny_pure ?_))
  simp only [if_true]; refine wpAny_bind (wpAny_rule (wpAny_bind (wpAny_field e4 rfl (x := old) rfl (wpAny_bind (wpAny_setField_rec e4 (by simp) fun h₅ e5 hs₅ => ?_)))))
  replace hs₅ : Heap.SameBut e h₄ h₅ := hs₅
  replace e5 : IsEnum h₅ e it ((i : Int) + 1) x := e5
  (show wpAny _ _ (Builtin.SmallTypes.ownedTupleHandOut (.ref e) (.ref hp.objs.size) >>= _) _ _ ⟨h₅, g, d, tk + 1, os⟩); refine wpAny_bind ?_
  unfold Builtin.SmallTypes.ownedTupleHandOut; refine wpAny_bind (wpAny_setField_rec e5 (by simp) fun h₆ e6 hs₆ => ?_)
  replace hs₆ : Heap.SameBut e h₅ h₆ := hs₆
  replace e6 : IsEnumOut h₆ e it ((i : Int) + 1) x hp.objs.size := e6
  refine wpAny_setField_rec e6 (by simp) fun h₇ e7 hs₇ => ?_
  replace hs₇ : Heap.SameBut e h₆ h₇ := hs₇
  replace e7 : IsEnumOut h₇ e it ((i : Int) + 1) x hp.objs.size := e7
  exact wpAny_bind (wpAny_letGo (wpAny_pure ⟨_, rfl, hQ h₇ e7 (((i4.off hs₅.extBut hne.symm).off hs₆.extBut hne.symm).off hs₇.extBut hne.symm)
    (hs₇.extBut _ _ (Nat.ne_of_gt hel) (hs₆.extBut _ _ (Nat.ne_of_gt hel) (hs₅.extBut _ _ (Nat.ne_of_gt hel) t4))) (by rw [hs₇.1, hs₆.1, hs₅.1, z4])
    fun b o hbe hbi hb => hs₇.extBut b o hbe (hs₆.extBut b o hbe (hs₅.extBut b o hbe (k4 b o hbe hbi hb)))⟩))
theorem pe_item {t : Bool} {e it l : Addr} {i : Nat} {items : Array Value} {x old : Value} {Q : Option Value → Shared → Prop} (he : IsEnum s.heap e it i old) (hit : ItAt t s.heap it l i) (hl : SqAt t s.heap l items) (hx : items[i]? = some x) (hne : e ≠ it)
    (hQ : ∀ h', IsEnumOut h' e it ((i : Int) + 1) x s.heap.objs.size → ItAt t h' it l (i + 1) → h'.get? s.heap.objs.size = some { cls := .type "tuple", data := .seq #[.int i s.toks, x] } → h'.objs.size = s.heap.objs.size + 1 →
      (∀ b o, b ≠ e → b ≠ it → s.heap.get? b = some o → h'.get? b = some o) → Q (some (.ref s.heap.objs.size)) { s with heap := h', toks := s.toks + 1 }) :
    wpAny (model prog w) A (pyNext (.ref e)) Q E s := by
  have hT : s.TypeIs (.ref e) "enumerate" := ⟨_, he, rfl⟩
  unfold pyNext; exact wpAny_bind (wpAny_attempt (wpAny_callSpecial?_slot (name := Str.ofString "__next__") hT F.slot_enumerate_next (wpAny_call_entry F.slot_enumerate_next hT F.entry_enumerate_next
    (en_item he hit hl hx hne fun h' a b c d k => wpAny_pure (hQ h' a b c d k)) (F.args_enumerate_next_1 _))))
theorem pe_end {t : Bool} {e it l : Addr} {i : Nat} {items : Array Value} {old : Value} {Q : Option Value → Shared → Prop} (hh : A.handled = none) (he : IsEnum s.heap e it i old) (hit : ItAt t s.heap it l i) (hl : SqAt t s.heap l items) (hx : items[i]? = none)
    (hQ : ∀ h', Heap.ExtBut it s.heap h' → Q none { s with heap := h' }) : wpAny (model prog w) A (pyNext (.ref e)) Q E s := by
  have hT : s.TypeIs (.ref e) "enumerate" := ⟨_, he, rfl⟩
  unfold pyNext; refine wpAny_bind (wpAny_attempt (wpAny_callSpecial?_slot (name := Str.ofString "__next__") hT F.slot_enumerate_next (wpAny_call_entry F.slot_enumerate_next hT F.entry_enumerate_next ?_ (F.args_enumerate_next_1 _))))
  (show wpAny _ _ (field (.ref e) 2 >>= _) _ _ _); refine wpAny_bind (wpAny_field he rfl (x := .ref it) rfl (wpAny_bind (nx_end hh hit hl hx fun h' x he' ⟨o, ho, hc⟩ => ?_)))
  exact wpAny_bind (wpAny_isInstance (T := "StopIteration") (b := true) ⟨o, ho, hc⟩ isSubtype_stop (wpAny_pure (hQ _ he')))
end
theorem meets_en1 {v : Value} {o : Obj} {H : Heap → Prop} (B : PySem.Begins v o H) :
    Meets (Builtin.«enumerate.__new__» ⟨[.type "enumerate", v], []⟩) (fun _ R s => H s.heap ∧ R (.ok (.ret (.ref (s.heap.push o).objs.size))) { s with heap := (s.heap.push o).push { cls := .type "enumerate", data := .fields #[.none, .bool false, .ref s.heap.objs.size, rawInt 0, .none, .none] } }) :=
  .of_wp fun prog w A R s h => by
    obtain ⟨hp, g, d, tk, os⟩ := s; obtain ⟨h1, h⟩ := h
    have hsub := sub_enumerate
    have q1 : ∀ {A' : Around} {E : Value → Shared → Prop} {Q : Value → Shared → Prop}, Q (.ref hp.objs.size) ⟨hp.push o, g, d, tk, os⟩ → wpAny (model prog w) A' (pyIter v) Q E ⟨hp, g, d, tk, os⟩ := fun q => B.iter prog w _ _ ⟨hp, g, d, tk, os⟩ _ h1 q
    wp_walk using q1
    refine wpAny_stack_any fun st => wpAny_pure ?_
    split
    · rename_i c _ _ _ _ _
      cases (c == Value.type "enumerate") <;> (wp_walk using q1; exact ⟨_, rfl, h⟩)
    · wp_walk using q1
      exact ⟨_, rfl, h⟩
theorem en_begin {prog : Program} {w : World} {A : Around} {E : Value → Shared → Prop} {s : Shared} {v : Value} {o : Obj} {H : Heap → Prop} {Q : Value → Shared → Prop} (B : PySem.Begins v o H) (h1 : H s.heap)
    (h : ∀ h', IsEnum h' (s.heap.objs.size + 1) s.heap.objs.size 0 .none → h'.get? s.heap.objs.size = some o → (∀ b o, s.heap.get? b = some o → h'.get? b = some o) → Q (.ref (s.heap.objs.size + 1)) { s with heap := h' }) :
    wpAny (model prog w) A (call (.type "enumerate") [v]) Q E s := by
  refine callType_new F.called_enumerate (by decide) (F.typeCall_enumerate_1 _) (F.newCall_enumerate_1 _) (fun obj => F.args_object_init_2 obj _) F.entry_enumerate_new (meets_en1 B) ⟨h1, ?_⟩
  have hz : (s.heap.push o).objs.size = s.heap.objs.size + 1 := Heap.size_push ..
  show _ ∧ _
  rw [hz]
  have he := Heap.get?_push_size (s.heap.push o) (o := { cls := .type "enumerate", data := .fields #[.none, .bool false, .ref s.heap.objs.size, rawInt 0, .none, .none] }) rfl
  rw [hz] at he
  exact ⟨⟨_, he, rfl⟩, h _ he (Heap.get?_push_of_some _ (Heap.get?_push_size _ B.free)) fun b o x => Heap.get?_push_of_some _ (Heap.get?_push_of_some _ x)⟩
def IteB (K : PySem.W.Frag) (t : Bool) (a : Addr) : It :=
  ⟨fun i H => ∃ (xs : List V) (x : V), SqK K H a t xs ∧ xs[i]? = some x, fun i H v H' => ∃ T x, v = .ref T ∧ H T = none ∧ H' = upd H T (.tup [.int (i : Nat), x]) ∧ ∀ xs, SqK K H a t xs → xs[i]? = some x, fun i H => ∃ xs : List V, SqK K H a t xs ∧ xs.length ≤ i⟩
theorem turn_en {P : Program} {w : World} {K : PySem.W.Frag} {elts : List Expr} {kk : Nat} {tpos : Pos} {t : Bool} {a e it : Addr} :
    Turn P w K (.Tuple elts kk tpos) (IteB K t a) [e, it] e (fun i h => (∃ old, IsEnum h e it ((i : Nat) : Int) old) ∧ ItAt t h it a i ∧ e ≠ it) where
  mem := by simp
  obj := fun i h st b hb => by
    obtain ⟨⟨old, he⟩, hit, _⟩ := st
    have e' : b = e ∨ b = it := by simpa using hb
    rcases e' with rfl | rfl
    · exact ⟨_, he, fun v q => nomatch q⟩
    · exact hit.here
  keep := fun i h h' ⟨⟨old, he⟩, hi, hne⟩ k => ⟨⟨old, k e (by simp) _ he⟩, hi.at fun o q => k it (by simp) o q, hne⟩
  item := by
    intro X hP hw hK hc i pins s σ H E I hf st hg
    subst hP hw hK
    obtain ⟨⟨old, he⟩, hit, hne⟩ := st
    obtain ⟨xs, x, hq, hx⟩ := hg
    obtain ⟨its, rv, p, _⟩ := sqk_at I hq
    obtain ⟨u, hu, ru⟩ := rv.get hx
    have hel : e < s.heap.objs.size := Heap.lt_size he
    have hil : it < s.heap.objs.size := by obtain ⟨_, q, _⟩ := hit.here; exact Heap.lt_size q
    refine pe_item he hit p (x := u) (by simpa using hu) hne fun h' ho hit' hT hsz hk => ⟨_, rfl, wpAny_letOwnedTupleGo_enum (s := { s with heap := h', toks := s.toks + 1 }) ho fun h'' he' sb => ?_⟩
    have hT2 : h''.get? s.heap.objs.size = some { cls := .type "tuple", data := .seq #[.int i s.toks, u] } := (sb.2 _ (Nat.ne_of_gt hel)).trans hT
    have new : ObjOk X.prog X.w (upd H s.heap.objs.size (.tup [.int (i : Nat), x])) h'' s.heap.objs.size (.tup [.int (i : Nat), x]) := ⟨(by decide : 2 ≤ sizeLine), [.int i s.toks, u], .cons ⟨_, rfl⟩ (.cons ru .nil), ⟨_, hT2, rfl, _, rfl⟩⟩
    have I1 : Inv X pins σ (upd H s.heap.objs.size (.tup [.int (i : Nat), x])) { s with heap := h'', toks := s.toks + 1 } :=
      I.turnedNew (ch := [e, it]) (fun b ob hb q => (sb.2 b (fun z => hb (by simp [z]))).trans (hk b ob (fun z => hb (by simp [z])) (fun z => hb (by simp [z])) q)) hf (Nat.le_refl _) new
    refine ⟨.ref s.heap.objs.size, _, I1, rfl, ⟨_, x, rfl, I.hok.fresh (Nat.le_refl _), rfl, fun ys hy => by rw [sqk_inj I hy hq]; exact hx⟩, ⟨⟨u, ?_⟩, hit'.at fun o q => (sb.2 it (Ne.symm hne)).trans q, hne⟩, fun b hb => ?_⟩
    · rw [show ((i + 1 : Nat) : Int) = (i : Int) + 1 from rfl]; exact he'
    · have hb' : b < s.heap.objs.size := by
        have e' : b = e ∨ b = it := by simpa using hb
        rcases e' with z | z
        · rw [z]; exact hel
        · rw [z]; exact hil
      rw [upd_ne (Nat.ne_of_lt hb')]
      exact (hf b hb).1
  done := by
    intro X hP hw hK hc i pins s σ H E I hf st hg
    subst hP hw hK
    obtain ⟨⟨old, he⟩, hit, hne⟩ := st
    obtain ⟨xs, hq, hx⟩ := hg
    obtain ⟨its, rv, p, _⟩ := sqk_at I hq
    have hl := rv.length
    obtain ⟨f0, f1, f2, f3, f4, f5⟩ := hf it (by simp)
    exact pe_end (I.ok.hd hc) he hit p (by simp; omega) fun h' eb => ⟨rfl, I.turned (t' := s.toks) (fun b o hb q => eb b o hb q) f0 f1 f3 f4 f5⟩
  self := fun A i s Q E st h => let ⟨⟨_, he⟩, _⟩ := st; wpAny_pyIter_enum he h
def tEnB (K : PySem.W.Frag) (ta : TA) : TI := fun σ H R => ta σ H fun vs H1 => ∃ a t xs, vs = [.ref a] ∧ SqK K H1 a t xs ∧ R (IteB K t a) H1
theorem pi_enB {X : Cx} {e : Expr} {ta : TA} {p pos tpos : Pos} {elts : List Expr} {kk : Nat} (hg : Gl X "enumerate") (hm : X.mg "enumerate" = none) (ha : PA X [e] ta) (hs : starEach [e] X.env = [(false, eval e X.env)] := by rfl) :
    PI X (.Tuple elts kk tpos) (.Call (.Name "enumerate" p) [e] [] pos) (tEnB X.K ta) := by
  refine ⟨fun pins s σ H R I h => ?_⟩
  refine Call_ (ld_blt I hg hm PyProof.Rows.boot_enumerate (PyProof.Rows.callWith_type1 (thn (ha.run pos pins s σ H _ I h) fun us s1 ⟨vs, H1, I1, r1, a, t, xs, ex, hq, q⟩ => ?_) hs rfl))
  subst ex
  cases r1 with
  | cons r rr =>
    cases rr; cases r
    obtain ⟨its, rv, p', la⟩ := sqk_at I1 hq
    refine en_begin (beg_k t a its.toArray) p' fun h' he hit hk => wpAny_pyIter_enum he ?_
    refine ⟨_, [s1.heap.objs.size + 1, s1.heap.objs.size], _, _, H1, rfl, I1.kept (t' := s1.toks) hk, turn_en, ⟨⟨.none, he⟩, it0 hit, Nat.succ_ne_self _⟩, fun b hb => ?_, q⟩
    have hle : s1.heap.objs.size ≤ b := by
      have e' : b = s1.heap.objs.size + 1 ∨ b = s1.heap.objs.size := by simpa using hb
      rcases e' with z | z <;> (rw [z]; simp)
    exact I1.fpOk hle (I1.hok.fresh hle)

/-- the built-in sorts of things -/
inductive Ty where | non | bool | int | str | list | tuple | dict
def Ty.nm : Ty → String
  | .non => "NoneType"
  | .bool => "bool"
  | .int => "int"
  | .str => "str"
  | .list => "list"
  | .tuple => "tuple"
  | .dict => "dict"
def Ty.le : Ty → Ty → Bool
  | .non, .non => true
  | .bool, .bool => true
  | .bool, .int => true
  | .int, .int => true
  | .str, .str => true
  | .list, .list => true
  | .tuple, .tuple => true
  | .dict, .dict => true
  | _, _ => false
theorem Ty.kit : ∀ a b : Ty, kitB a.nm b.nm = some (a.le b) := by
  intro a b
  cases a <;> cases b <;> decide +kernel

theorem sqt_ty {K : PySem.W.Frag} {H : Hp} {a : Addr} {ws : List V} (h1 : SqT K H a ws) : TyX K H (.ref a) (.type Ty.tuple.nm) := by
  rcases h1 with (h1 | ⟨o, h1⟩) | ⟨o, _, _, h1, h2, _⟩
  · exact .base (.tup h1)
  · exact .fTuple h1
  · exact .kTuple h1 h2

def rIsiT (K : PySem.W.Frag) (c : Ty) : List V → Hp → VK → Prop := fun xs H Q => ∃ x T, xs = [x, .ty c.nm] ∧ TyX K H x (.type (Ty.nm T)) ∧ Q (.bl (T.le c)) H
theorem call_isiT' {X : Cx} (c : Ty) : CallR X (.builtin "isinstance") (rIsiT X.K c) := by
  intro pins s σ H xs us Q I r h
  obtain ⟨x, T, rfl, ht, q⟩ := h
  exact call_isi pins s σ H _ us Q I r ⟨x, .ty c.nm, _, _, T.le c, rfl, .ty _, ht, kit_ty (Ty.kit T c), q⟩

def rLenU (K : PySem.W.Frag) : List V → Hp → VK → Prop := fun xs H Q => (∃ p ys, xs = [.ref p] ∧ (SqL K H p ys ∨ SqT K H p ys) ∧ Q (.int ys.length) H) ∨ ∃ z, xs = [.str z] ∧ z.length ≤ sizeLine ∧ Q (.int z.length) H
theorem call_lenU {X : Cx} : CallR X (.builtin "len") (rLenU X.K) := call_len_seq.or call_len_str

def rRepr (K : PySem.W.Frag) : List V → Hp → VK → Prop := fun xs H Q => (∃ i, xs = [.int i] ∧ i.natAbs.log2 < 1920 ∧ Q (.str (toString i)) H) ∨
  ∃ a d, xs = [.ref a] ∧ Dp K H (.ref a) d ∧ d.showable = true ∧ d.hasDict = false ∧ d.depth ≤ 100 ∧ d.shown.length ≤ sizeLine ∧ Q (.str d.shown) H
theorem call_reprU {X : Cx} (hg : X.A.guards = some []) (hu : X.A.units + 180 < cLine) : CallR X (.builtin "repr") (rRepr X.K) := by
  intro pins s σ H xs us Q I r h
  rcases h with ⟨i, rfl, hz, q⟩ | ⟨a, d, rfl, hd, h1, h2, h3, h4, q⟩
  · obtain ⟨u, rfl, t, rfl⟩ := vals1 r
    exact PySem.P.repr_of_int hz ⟨.str _, H, I.tok _, ⟨_, rfl⟩, q⟩
  · obtain ⟨u, rfl, rx⟩ := vals1 r
    obtain ⟨as, rd⟩ := Dp.reads I d _ u hd rx
    obtain rfl : u = Value.ref a := rx
    refine repr_of_reads' (h₀ := s.heap) rd h1 (PyData.noDict_hsm h2) hg (by omega) (fun _ _ e => e) (fun h' u tk hk => ?_) h4
    exact ⟨.str d.shown, H, I.kept (t' := tk) hk, ⟨u, rfl⟩, q⟩

def rSortedU (K : PySem.W.Frag) : List V → Hp → VK → Prop := fun xs H Q => rSortedI K xs H Q ∨ (∃ d B, 1 ≤ d ∧ rSortU K d B xs H Q) ∨ ∃ (a : Addr) (kvs : List (Key × V)) (ks : List Str), xs = [.ref a] ∧ Rd H a (.dK kvs) ∧ kvs.map (·.1) = ks.map Sum.inr ∧ ks.length < 64 ∧
    ∀ ys p, ys.Perm ks → sortedS ys = true → H p = none → Q (.ref p) (upd H p (.lst (ys.map V.str)))
theorem cr_sortedU {X : Cx} (hc : X.calm = true) : CallR X (.builtin "sorted") (rSortedU X.K) := by
  intro pins s σ H xs us Q I r h
  rcases h with h | ⟨d, B, hd, h⟩ | h
  · exact cr_sortedI pins s σ H xs us Q I r h
  · exact cr_sortT hd pins s σ H xs us Q I r h
  · exact call_sortedD hc pins s σ H xs us Q I r h

theorem rm180 {k : Nat} {A : Around} (r : Room k A) : A.units + 180 < cLine := by
  have := r.un
  omega

end FL
namespace FL
open PySem PySem.Spec PyProof.Rows L2
/-! ### built-in functions and classes, called -/
def eB (f : FL1) (ta : FA) : FE := fun ρ st => (ta ρ st).bind fun xs st1 => R.opt (f xs st1)
theorem le_cb {K : PySem.W.Frag} {W : WX} {r : List V → Hp → VK → Prop} {f : FL1} {ta : FA} (h : RLF K r f) {σ : L2.St} {H : Hp} {Q : VK} : LE K W (eB f ta) σ H Q → tCB r (LA K W ta) σ H Q := fun ⟨fr, ms, ρ, st, w, g⟩ =>
  ⟨fr, ms, ρ, st, w, g.bind.mono fun xs st1 fr1 H1 ms1 _ _ ⟨e1, s1, g1⟩ vs rs => by
    obtain ⟨z, st3, hf, q⟩ := g1.opt
    exact h _ _ _ _ _ _ _ _ Q s1 rs hf q⟩
section
variable {X : Cx} {W : WX} {x : Str} {p pos : Pos} {e : Expr} {es : List Expr} {t : FA} {id T : String} {r : List V → Hp → VK → Prop} {f : FL1}
theorem d_callB (hc : CallR X (.builtin id) r) (hf : RLF X.K r f) (hm : X.mg x = none) (hv : bootBuiltins x = some (.builtin id)) (ha : DA X W (e :: es) t) (hg : Gl X x := by rfl) (hn : x ≠ "__name__" := by decide) (hdb : (x == ("__debug__" : Str)) = false := by decide)
    (he : starEach (e :: es) X.env = (false, eval e X.env) :: starEach es X.env := by rfl) (hpl : (backTo pos (starEach es X.env)).any (·.1) = false := by rfl) : DE X W (.Call (.Name x p) (e :: es) [] pos) (eB f t) :=
  pe_imp (pe_callB hc hg hm hv ha hn hdb he hpl) fun _ _ _ => le_cb hf
theorem d_callT (hc : CallR X (.type T) r) (hf : RLF X.K r f) (hm : X.mg x = none) (hv : bootBuiltins x = some (.type T)) (ha : DA X W (e :: es) t) (hg : Gl X x := by rfl) (hn : x ≠ "__name__" := by decide) (hdb : (x == ("__debug__" : Str)) = false := by decide)
    (he : starEach (e :: es) X.env = (false, eval e X.env) :: starEach es X.env := by rfl) (hpl : (backTo pos (starEach es X.env)).any (·.1) = false := by rfl) : DE X W (.Call (.Name x p) (e :: es) [] pos) (eB f t) :=
  pe_imp (pe_callTy hc hg hm hv ha hn hdb he hpl) fun _ _ _ => le_cb hf
theorem d_ty {T : String} (hm : X.mg x = none) (hv : bootBuiltins x = some (.type T)) (hg : Gl X x := by rfl) (hn : x ≠ "__name__" := by decide) (hd : (x == ("__debug__" : Str)) = false := by decide) : DE X W (.Name x pos) (eC (.ty T)) :=
  pe_imp (pe_bltn (v := .ty T) hg hm hv rfl hn hd) fun σ H Q ⟨fr, ms, ρ, st, w, g⟩ => g.now w.sr _ (.ty T)
/-- a value of the module, by what it is -/
theorem d_glob {v : V} {u : Value} {d : Val} (hm : X.mg x = some u) (r : RelV v u) (hr : ∀ fr H ms, VR X.K fr H ms v d) (hg : Gl X x := by rfl) (hd : (x == ("__debug__" : Str)) = false := by decide) : DE X W (.Name x pos) (eC d) :=
  pe_imp (pe_glob hg hm r hd) fun σ H Q ⟨fr, ms, ρ, st, w, g⟩ => g.now w.sr _ (hr _ _ _)
end
section
variable {K : PySem.W.Frag}
/-- len -/
def fLen : FL1 := fun xs st => match xs with
  | [.str z] => bif Nat.ble z.length sizeLine then some (.int z.length, st) else none
  | [x] => (match seqOf st x with
    | some ys => some (.int ys.length, st)
    | none => (match dictOf st x with
      | some es => some (.int es.length, st)
      | none => none))
  | _ => none
def rLenV (K : PySem.W.Frag) : List V → Hp → VK → Prop := fun xs H Q => rLenU K xs H Q ∨ ∃ (d : Addr) (kvs : List (Key × V)), xs = [.ref d] ∧ H d = some (.dK kvs) ∧ Q (.int kvs.length) H
theorem call_lenV {X : Cx} : CallR X (.builtin "len") (rLenV X.K) := call_lenU.or fun pins s σ H xs us Q I r ⟨d, kvs, e, hd, q⟩ => call_lenD pins s σ H xs us Q I r ⟨d, kvs, e, hd, q⟩
theorem rl_len : RLF K (rLenV K) fLen := fun fr H ms st xs sxs z st' Q s rx h q => by
  unfold fLen at h
  split at h
  · obtain ⟨hb, h⟩ := cond_some h
    cases h
    obtain ⟨v, rfl, r⟩ := vrs1 rx
    exact .inl (.inr ⟨_, by rw [vr_str r], Nat.le_of_ble_eq_true hb, q.now s (.int _)⟩)
  · obtain ⟨v, rfl, r⟩ := vrs1 rx
    split at h
    · next ys hy =>
      cases h
      obtain ⟨a, ws, rfl, hs, hr⟩ := seq_at s r hy
      exact .inl (.inl ⟨a, ws, rfl, hs, by rw [hr.length]; exact q.now s (.int _)⟩)
    · split at h
      · next es he =>
        cases h
        obtain ⟨a, ws, rfl, hs, hr⟩ := dct_at s r he
        exact .inr ⟨a, ws, rfl, hs, by rw [hr.length]; exact q.now s (.int _)⟩
      · cases h
  · cases h
/-- list(x) of a list or tuple -/
def fList (c : Bool) : FL1 := fun xs st => match xs with
  | [x] => (match seqOf st x with
    | some ys => some (newL c ys st)
    | none => none)
  | _ => none
theorem rl_list (c : Bool) : RLF K (fun xs H Q => ∃ p ys, xs = [.ref p] ∧ (SqL K H p ys ∨ SqT K H p ys) ∧ ∀ l, H l = none → Q (.ref l) (upd H l (.lst ys))) (fList c) := fun fr H ms st xs sxs z st' Q s rx h q => by
  unfold fList at h
  split at h
  · obtain ⟨v, rfl, r⟩ := vrs1 rx
    split at h
    · next ys hy =>
      obtain ⟨e5, e6⟩ := newl_out h
      rw [← e5, ← e6] at q
      obtain ⟨a, ws, rfl, hs, hr⟩ := seq_at s r hy
      exact ⟨a, ws, rfl, hs, fun l n => q.newl s hr n⟩
    · cases h
  · cases h
/-- tuple(x) of a list, of a tuple -/
def fTuple : FL1 := fun xs st => match xs with
  | [.tup ds] => some (.tup ds, st)
  | [x] => (match lstOf st x with
    | some ys => some (.tup ys, st)
    | none => none)
  | _ => none
theorem rl_tuple : RLF K (fun xs H Q => ∃ p ys, xs = [.ref p] ∧ ((SqL K H p ys ∧ ∀ l, H l = none → Q (.ref l) (upd H l (.tup ys))) ∨ (SqT K H p ys ∧ Q (.ref p) H))) fTuple := fun fr H ms st xs sxs z st' Q s rx h q => by
  unfold fTuple at h
  split at h
  · cases h
    obtain ⟨v, rfl, r⟩ := vrs1 rx
    obtain ⟨a, ws, rfl, h1, h2⟩ := vr_tup r
    exact ⟨a, ws, rfl, .inr ⟨h1, q.now s (.tup h1 h2)⟩⟩
  · obtain ⟨v, rfl, r⟩ := vrs1 rx
    split at h
    · next ys hy =>
      cases h
      obtain ⟨a, ws, rfl, h1, h2⟩ := lst_at s r hy
      exact ⟨a, ws, rfl, .inl ⟨h1, fun l n => q.tup s h2 n⟩⟩
    · cases h
  · cases h
def fMax2 : FL1 := fun xs st => match xs with
  | [.int i, .int j] => some (.int (if j > i then j else i), st)
  | _ => none
def fMin2 : FL1 := fun xs st => match xs with
  | [.int i, .int j] => some (.int (if j < i then j else i), st)
  | _ => none
theorem rl_max2 : RLF K (fun xs H Q => ∃ i j, xs = [.int i, .int j] ∧ Q (.int (if j > i then j else i)) H) fMax2 := fun fr H ms st xs sxs z st' Q s rx h q => by
  unfold fMax2 at h
  split at h
  · cases h
    obtain ⟨v, u, rfl, r1, r2⟩ := vrs2 rx
    exact ⟨_, _, by rw [vr_int r1, vr_int r2], q.now s (.int _)⟩
  · cases h
theorem rl_min2 : RLF K (fun xs H Q => ∃ i j, xs = [.int i, .int j] ∧ Q (.int (if j < i then j else i)) H) fMin2 := fun fr H ms st xs sxs z st' Q s rx h q => by
  unfold fMin2 at h
  split at h
  · cases h
    obtain ⟨v, u, rfl, r1, r2⟩ := vrs2 rx
    exact ⟨_, _, by rw [vr_int r1, vr_int r2], q.now s (.int _)⟩
  · cases h
/-- rows of ints, of truths -/
def intsOf : List Val → Option (List Int)
  | [] => some []
  | .int i :: r => (match intsOf r with
    | some ns => some (i :: ns)
    | none => none)
  | _ :: _ => none
def boolsOf : List Val → Option (List Bool)
  | [] => some []
  | .bl i :: r => (match boolsOf r with
    | some ns => some (i :: ns)
    | none => none)
  | _ :: _ => none
theorem intsOf_eq : ∀ {xs : List Val} {ns : List Int}, intsOf xs = some ns → xs = ns.map Val.int
  | [], _, h => by
    cases h
    rfl
  | x :: r, ns, h => by
    unfold intsOf at h
    split at h
    · next e =>
      cases e
    · next i r' e =>
      cases e
      split at h
      · next ms hm =>
        cases h
        rw [List.map_cons, intsOf_eq hm]
      · cases h
    · cases h
theorem boolsOf_eq : ∀ {xs : List Val} {ns : List Bool}, boolsOf xs = some ns → xs = ns.map Val.bl
  | [], _, h => by
    cases h
    rfl
  | x :: r, ns, h => by
    unfold boolsOf at h
    split at h
    · next e =>
      cases e
    · next i r' e =>
      cases e
      split at h
      · next ms hm =>
        cases h
        rw [List.map_cons, boolsOf_eq hm]
      · cases h
    · cases h
theorem intsOf_map : ∀ ns : List Int, intsOf (ns.map Val.int) = some ns
  | [] => rfl
  | x :: r => by
    rw [List.map_cons]
    unfold intsOf
    rw [intsOf_map r]
theorem boolsOf_map : ∀ ns : List Bool, boolsOf (ns.map Val.bl) = some ns
  | [] => rfl
  | x :: r => by
    rw [List.map_cons]
    unfold boolsOf
    rw [boolsOf_map r]
theorem vrs_ints {fr : Addr → Prop} {H : Hp} {ms : List Addr} : ∀ {ns : List Int} {vs : List V}, VRs K fr H ms vs (ns.map Val.int) → vs = ns.map V.int
  | [], _, .nil => rfl
  | _ :: _, _, .cons a b => by rw [List.map_cons, vr_int a, vrs_ints b]
theorem vrs_bools {fr : Addr → Prop} {H : Hp} {ms : List Addr} : ∀ {ns : List Bool} {vs : List V}, VRs K fr H ms vs (ns.map Val.bl) → vs = ns.map V.bl
  | [], _, .nil => rfl
  | _ :: _, _, .cons a b => by rw [List.map_cons, vr_bl a, vrs_bools b]
theorem vrs_of_ints {fr : Addr → Prop} {H : Hp} {ms : List Addr} : ∀ ns : List Int, VRs K fr H ms (ns.map V.int) (ns.map Val.int)
  | [] => .nil
  | _ :: r => .cons (.int _) (vrs_of_ints r)
theorem vrs_of_strs {fr : Addr → Prop} {H : Hp} {ms : List Addr} : ∀ ns : List Str, VRs K fr H ms (ns.map V.str) (ns.map Val.str)
  | [] => .nil
  | _ :: r => .cons (.str _) (vrs_of_strs r)
def intsIn (st : Store) (x : Val) : Option (List Int) := match lstOf st x with
  | some ys => intsOf ys
  | none => none
def boolsIn (st : Store) (x : Val) : Option (List Bool) := match lstOf st x with
  | some ys => boolsOf ys
  | none => none
theorem intsIn_at {fr : Addr → Prop} {H : Hp} {ms : List Addr} {st : Store} {x : Val} {v : V} {ns : List Int} (s : SR K fr H ms st) (r : VR K fr H ms v x) (h : intsIn st x = some ns) : ∃ a, v = .ref a ∧ SqL K H a (ns.map V.int) := by
  unfold intsIn at h
  split at h
  · next ys hy =>
    obtain ⟨a, ws, rfl, h1, h2⟩ := lst_at s r hy
    rw [intsOf_eq h] at h2
    rw [vrs_ints h2] at h1
    exact ⟨a, rfl, h1⟩
  · cases h
theorem boolsIn_at {fr : Addr → Prop} {H : Hp} {ms : List Addr} {st : Store} {x : Val} {v : V} {ns : List Bool} (s : SR K fr H ms st) (r : VR K fr H ms v x) (h : boolsIn st x = some ns) : ∃ a, v = .ref a ∧ SqL K H a (ns.map V.bl) := by
  unfold boolsIn at h
  split at h
  · next ys hy =>
    obtain ⟨a, ws, rfl, h1, h2⟩ := lst_at s r hy
    rw [boolsOf_eq h] at h2
    rw [vrs_bools h2] at h1
    exact ⟨a, rfl, h1⟩
  · cases h
def fSum : FL1 := fun xs st => match xs with
  | [x] => (match intsIn st x with
    | some ns => some (.int ns.sum, st)
    | none => none)
  | _ => none
theorem rl_sum : RLF K (rSum K) fSum := fun fr H ms st xs sxs z st' Q s rx h q => by
  unfold fSum at h
  split at h
  · obtain ⟨v, rfl, r⟩ := vrs1 rx
    split at h
    · next ns hn =>
      cases h
      obtain ⟨a, rfl, h1⟩ := intsIn_at s r hn
      exact ⟨a, ns, rfl, h1, q.now s (.int _)⟩
    · cases h
  · cases h
def fAll : FL1 := fun xs st => match xs with
  | [x] => (match boolsIn st x with
    | some ns => some (.bl (ns.all id), st)
    | none => none)
  | _ => none
theorem rl_all : RLF K (rAll K) fAll := fun fr H ms st xs sxs z st' Q s rx h q => by
  unfold fAll at h
  split at h
  · obtain ⟨v, rfl, r⟩ := vrs1 rx
    split at h
    · next ns hn =>
      cases h
      obtain ⟨a, rfl, h1⟩ := boolsIn_at s r hn
      exact ⟨a, ns, rfl, h1, q.now s (.bl _)⟩
    · cases h
  · cases h
def fAny : FL1 := fun xs st => match xs with
  | [x] => (match boolsIn st x with
    | some ns => some (.bl (ns.any id), st)
    | none => none)
  | _ => none
theorem rl_any : RLF K (rAny K) fAny := fun fr H ms st xs sxs z st' Q s rx h q => by
  unfold fAny at h
  split at h
  · obtain ⟨v, rfl, r⟩ := vrs1 rx
    split at h
    · next ns hn =>
      cases h
      obtain ⟨a, rfl, h1⟩ := boolsIn_at s r hn
      exact ⟨a, ns, rfl, h1, q.now s (.bl _)⟩
    · cases h
  · cases h
/-- the greatest, the least of a row that isn't empty -/
def maxL : List Int → Int
  | [] => 0
  | [x] => x
  | x :: y :: r => let m := maxL (y :: r); if m > x then m else x
def minL : List Int → Int
  | [] => 0
  | [x] => x
  | x :: y :: r => let m := minL (y :: r); if m < x then m else x
theorem maxL_in : ∀ {ns : List Int}, ns ≠ [] → maxL ns ∈ ns ∧ ∀ y ∈ ns, y ≤ maxL ns
  | [], h => absurd rfl h
  | [x], _ => ⟨List.mem_singleton.mpr rfl, fun y hy => by rw [List.mem_singleton.mp hy]; exact Int.le_refl _⟩
  | x :: y :: r, _ => by
    obtain ⟨h1, h2⟩ := maxL_in (ns := y :: r) (by simp)
    unfold maxL
    dsimp only
    split
    · next h =>
      refine ⟨List.mem_cons_of_mem _ h1, fun z hz => ?_⟩
      rcases List.mem_cons.mp hz with rfl | hz
      · omega
      · exact h2 z hz
    · next h =>
      refine ⟨List.mem_cons_self, fun z hz => ?_⟩
      rcases List.mem_cons.mp hz with rfl | hz
      · omega
      · have := h2 z hz
        omega
theorem minL_in : ∀ {ns : List Int}, ns ≠ [] → minL ns ∈ ns ∧ ∀ y ∈ ns, minL ns ≤ y
  | [], h => absurd rfl h
  | [x], _ => ⟨List.mem_singleton.mpr rfl, fun y hy => by rw [List.mem_singleton.mp hy]; exact Int.le_refl _⟩
  | x :: y :: r, _ => by
    obtain ⟨h1, h2⟩ := minL_in (ns := y :: r) (by simp)
    unfold minL
    dsimp only
    split
    · next h =>
      refine ⟨List.mem_cons_of_mem _ h1, fun z hz => ?_⟩
      rcases List.mem_cons.mp hz with rfl | hz
      · omega
      · exact h2 z hz
    · next h =>
      refine ⟨List.mem_cons_self, fun z hz => ?_⟩
      rcases List.mem_cons.mp hz with rfl | hz
      · omega
      · have := h2 z hz
        omega
def fMax : FL1 := fun xs st => match xs with
  | [x] => (match intsIn st x with
    | some (n :: ns) => some (.int (maxL (n :: ns)), st)
    | _ => none)
  | _ => none
def fMin : FL1 := fun xs st => match xs with
  | [x] => (match intsIn st x with
    | some (n :: ns) => some (.int (minL (n :: ns)), st)
    | _ => none)
  | _ => none
theorem rl_max : RLF K (rMax K) fMax := fun fr H ms st xs sxs z st' Q s rx h q => by
  unfold fMax at h
  split at h
  · obtain ⟨v, rfl, r⟩ := vrs1 rx
    split at h
    · next n ns hn =>
      cases h
      obtain ⟨a, rfl, h1⟩ := intsIn_at s r hn
      obtain ⟨m1, m2⟩ := maxL_in (ns := n :: ns) (by simp)
      refine ⟨a, _, rfl, h1, by simp, fun m hm hy => ?_⟩
      have e : m = maxL (n :: ns) := Int.le_antisymm (m2 m hm) (hy _ m1)
      rw [e]
      exact q.now s (.int _)
    · cases h
  · cases h
theorem rl_min : RLF K (rMin K) fMin := fun fr H ms st xs sxs z st' Q s rx h q => by
  unfold fMin at h
  split at h
  · obtain ⟨v, rfl, r⟩ := vrs1 rx
    split at h
    · next n ns hn =>
      cases h
      obtain ⟨a, rfl, h1⟩ := intsIn_at s r hn
      obtain ⟨m1, m2⟩ := minL_in (ns := n :: ns) (by simp)
      refine ⟨a, _, rfl, h1, by simp, fun m hm hy => ?_⟩
      have e : m = minL (n :: ns) := Int.le_antisymm (hy _ m1) (m2 m hm)
      rw [e]
      exact q.now s (.int _)
    · cases h
  · cases h
/-- int(x) of an int, of a truth -/
def fInt : FL1 := fun xs st => match xs with
  | [.int i] => some (.int i, st)
  | [.bl b] => some (.int (if b then 1 else 0), st)
  | _ => none
theorem rl_int : RLF K (fun xs H Q => (∃ i, xs = [.int i] ∧ Q (.int i) H) ∨ ∃ k, xs = [.bl k] ∧ Q (.int (if k then 1 else 0)) H) fInt := fun fr H ms st xs sxs z st' Q s rx h q => by
  unfold fInt at h
  split at h
  · cases h
    obtain ⟨v, rfl, r⟩ := vrs1 rx
    exact .inl ⟨_, by rw [vr_int r], q.now s (.int _)⟩
  · cases h
    obtain ⟨v, rfl, r⟩ := vrs1 rx
    exact .inr ⟨_, by rw [vr_bl r], q.now s (.int _)⟩
  · cases h
/-! ### isinstance -/
def tyF (st : Store) : Val → Option Ty
  | .non => some .non
  | .bl _ => some .bool
  | .int _ => some .int
  | .str _ => some .str
  | .tup _ => some .tuple
  | .ro _ => some .list
  | .wr _ => some .list
  | .rd _ _ => some .dict
  | .ref p => (match st[p]? with
    | some (.lst _) => some .list
    | some (.dic _) => some .dict
    | _ => none)
  | _ => none
theorem ty_of {fr : Addr → Prop} {H : Hp} {ms : List Addr} {st : Store} {x : Val} {v : V} {T : Ty} (s : SR K fr H ms st) (r : VR K fr H ms v x) (h : tyF st x = some T) : TyX K H v (.type T.nm) := by
  unfold tyF at h
  split at h
  · cases h; cases r; exact .base .non
  · cases h; cases r; exact .base (.bl _)
  · cases h; cases r; exact .base (.int _)
  · cases h; cases r; exact .base (.str _)
  · cases h
    obtain ⟨a, ws, rfl, h1, _⟩ := vr_tup r
    exact sqt_ty h1
  · cases h
    obtain ⟨a, ws, rfl, h1, _⟩ := vr_ro r
    exact .base (.lst h1)
  · cases h
    obtain ⟨a, ws, rfl, h1, _⟩ := vr_wr r
    rcases h1 with ⟨o, h1⟩ | ⟨o, _, _, h1, h2, _⟩
    · exact .base (.frz h1)
    · exact .kList h1 h2
  · cases h
    cases r with
    | rd h1 _ _ _ => exact .base (.dK h1)
  · split at h
    · next hp =>
      cases h
      obtain ⟨a, rfl, _, ws, hw, _⟩ := s.at r hp
      exact .base (.lst hw)
    · next hp =>
      cases h
      obtain ⟨a, rfl, _, ws, hw, _⟩ := s.at r hp
      exact .base (.dK hw)
    · cases h
  · cases h
end
/-- isinstance(e, T), T a built-in class -/
def eIsi (c : Ty) (te : FE) : FE := fun ρ st => (te ρ st).bind fun x st1 => match tyF st1 x with
  | some T => .ok (.bl (T.le c)) st1
  | none => .bad
section
variable {X : Cx} {W : WX} {pos : Pos}
theorem d_isi (c : Ty) {e : Expr} {te : FE} {p p2 : Pos} {tn : Str} (hi : X.mg "isinstance" = none) (hm : X.mg tn = none) (hv : bootBuiltins tn = some (.type c.nm)) (he : DE X W e te) (hg2 : Gl X tn := by rfl) (hn2 : tn ≠ "__name__" := by decide) (hd2 : (tn == ("__debug__" : Str)) = false := by decide)
    (hg : Gl X "isinstance" := by rfl) (hs : starEach [e, .Name tn p2] X.env = (false, eval e X.env) :: starEach [.Name tn p2] X.env := by rfl) (hpl : (backTo pos (starEach [.Name tn p2] X.env)).any (·.1) = false := by rfl) :
    DE X W (.Call (.Name "isinstance" p) [e, .Name tn p2] [] pos) (eIsi c te) :=
  pe_imp (pe_callB (call_isiT' c) hg hi (by decide +kernel) (pa_cons he (pa_cons (pe_bltn (v := .ty c.nm) hg2 hm hv rfl hn2 hd2) pa_nil (by rfl)) hs) (by decide) (by decide) hs hpl) fun σ H Q ⟨fr, ms, ρ, st, w, g⟩ =>
    ⟨fr, ms, ρ, st, w, g.bind.mono fun x st1 fr1 H1 ms1 _ _ ⟨e1, s1, g1⟩ v rv => by
      cases hT : tyF st1 x with
      | none =>
        rw [hT] at g1
        exact g1.elim
      | some T =>
        rw [hT] at g1
        exact ⟨v, T, rfl, ty_of s1 rv hT, g1.now s1 _ (.bl _)⟩⟩
end
/-! ### repr -/
def repOk (d : PyData) : Bool := PyData.showable d && decide (d.depth ≤ 100) && decide ((PyData.shown d).length ≤ sizeLine) && !d.hasDict
def fRepr : FL1 := fun xs st => match xs with
  | [.int i] => bif decide (i.natAbs.log2 < 1920) then some (.str (toString i), st) else none
  | [.non] => none
  | [.bl _] => none
  | [.str _] => none
  | [x] => (match toD st x with
    | some d => bif repOk d then some (.str (PyData.shown d), st) else none
    | none => none)
  | _ => none
theorem dp_ref {K : PySem.W.Frag} {H : Hp} {v : V} {d : PyData} (h : Dp K H v d) (h1 : v ≠ .non) (h2 : ∀ b, v ≠ .bl b) (h3 : ∀ b, v ≠ .int b) (h4 : ∀ b, v ≠ .str b) : ∃ a, v = .ref a := by
  cases h with
  | non => exact absurd rfl h1
  | bl b => exact absurd rfl (h2 b)
  | int b => exact absurd rfl (h3 b)
  | str b => exact absurd rfl (h4 b)
  | lst a b => exact ⟨_, rfl⟩
  | tup a b => exact ⟨_, rfl⟩
theorem rl_repr {K : PySem.W.Frag} : RLF K (rRepr K) fRepr := fun fr H ms st xs sxs z st' Q s rx h q => by
  unfold fRepr at h
  split at h
  · obtain ⟨hb, h⟩ := cond_some h
    cases h
    obtain ⟨v, rfl, r⟩ := vrs1 rx
    exact .inl ⟨_, by rw [vr_int r], of_decide_eq_true hb, q.now s (.str _)⟩
  · cases h
  · cases h
  · cases h
  · next x n1 n2 n3 n4 =>
    obtain ⟨v, rfl, r⟩ := vrs1 rx
    split at h
    · next d hd =>
      obtain ⟨hb, h⟩ := cond_some h
      cases h
      unfold repOk at hb
      simp only [Bool.and_eq_true, decide_eq_true_eq, Bool.not_eq_true'] at hb
      have hD := toD_at s hd r
      obtain ⟨a, rfl⟩ : ∃ a, v = .ref a := by
        cases r with
        | non => exact absurd rfl n2
        | bl b => exact absurd rfl (n3 b)
        | int b => exact absurd rfl (n1 b)
        | str b => exact absurd rfl (n4 b)
        | ty n => unfold toD toDV at hd; cases hd
        | _ => exact ⟨_, rfl⟩
      exact .inr ⟨a, d, rfl, hD, hb.1.1.1, hb.2, hb.1.1.2, hb.1.2, q.now s (.str _)⟩
    · cases h
  · cases h
/-! ### methods of lists -/
abbrev FM := List Val → List Val → Option (Val × List Val)
/-- o.m(..): o a list; it is read behind the arguments -/
def eM (f : FM) (to : FE) (ta : FA) : FE := fun ρ st => (to ρ st).bind fun x st1 => match x with
  | .ref p => (match lstAt st1 p with
    | some _ => (ta ρ st1).bind fun ys st2 => (match lstAt st2 p with
      | some xs => (match f xs ys with
        | some (z, zs) => .ok z (st2.set p (.lst zs))
        | none => .bad)
      | none => .bad)
    | none => .bad)
  | _ => .bad
/-- by what is asked of a method's rule -/
def RMF (K : PySem.W.Frag) (r : V → List V → Hp → VK → Prop) (f : FM) : Prop := ∀ fr H ms a ws xs ys vs z zs Q, H a = some (.lst ws) → VRs K fr H ms ws xs → VRs K fr H ms vs ys → f xs ys = some (z, zs) →
  (∀ us v, VRs K fr H ms us zs → VR K fr H ms v z → Q v (upd H a (.lst us))) → r (.ref a) vs H Q
theorem QV.setl {K : PySem.W.Frag} {fr : Addr → Prop} {H : Hp} {ms : List Addr} {st : Store} {p : Nat} {a : Addr} {z : Val} {zs xs : List Val} {us : List V} {v : V} {Q : VK} (q : QV K fr H ms z (st.set p (.lst zs)) Q) (s : SR K fr H ms st) (hm : ms[p]? = some a)
    (ru : VRs K fr H ms us zs) (rz : VR K fr H ms v z) : Q v (upd H a (.lst us)) := by
  have hmm := List.mem_of_getElem? hm
  have e := Ext.upd (fr := fr) (o := .lst us) ms.length hmm (s.there hmm)
  exact q _ _ _ _ e (s.set hm ⟨us, upd_same, ru.ex s e⟩) (rz.ex s e)
theorem le_m {K : PySem.W.Frag} {W : WX} {r : V → List V → Hp → VK → Prop} {f : FM} {to : FE} {ta : FA} (h : RMF K r f) {σ : L2.St} {H : Hp} {Q : VK} : LE K W (eM f to ta) σ H Q → tBM K "list" r (LE K W to) (LA K W ta) σ H Q := by
  rintro ⟨fr, ms, ρ, st, w, g⟩
  refine ⟨fr, ms, ρ, st, w, g.bind.mono fun x st1 fr1 H1 ms1 _ _ ⟨e1, s1, g1⟩ v rv => ?_⟩
  cases x with
  | ref p =>
    dsimp only at g1
    cases hx : lstAt st1 p with
    | none =>
      rw [hx] at g1
      exact g1.elim
    | some xs =>
      rw [hx] at g1
      dsimp only at g1
      obtain ⟨a, rfl, hm, ws, hw, _⟩ := s1.at rv (lstAt_eq hx)
      refine ⟨.inl ⟨rfl, ws, SqL.of hw⟩, fr1, ms1, ρ, st1, w.on e1 s1, g1.bind.mono fun ys st2 fr2 H2 ms2 _ _ ⟨e2, s2, g2⟩ vs rs => ?_⟩
      cases hx2 : lstAt st2 p with
      | none =>
        rw [hx2] at g2
        exact g2.elim
      | some xs2 =>
        rw [hx2] at g2
        dsimp only at g2
        cases hf : f xs2 ys with
        | none =>
          rw [hf] at g2
          exact g2.elim
        | some pr =>
          obtain ⟨z, zs⟩ := pr
          rw [hf] at g2
          have q := QV.of g2
          obtain ⟨b, eb, hm2, ws2, hw2, hr2⟩ := s2.at (rv.ex s1 e2) (lstAt_eq hx2)
          cases eb
          exact h fr2 H2 ms2 a ws2 xs2 ys vs z zs Q hw2 hr2 rs hf fun us v ru rz => q.setl (xs := xs2) s2 hm2 ru rz
  | _ => exact g1.elim
theorem le_m0 {K : PySem.W.Frag} {W : WX} {r : V → List V → Hp → VK → Prop} {f : FM} {to : FE} (h : RMF K r f) {σ : L2.St} {H : Hp} {Q : VK} : LE K W (eM f to aNil) σ H Q → tBM0 K "list" r (LE K W to) σ H Q := by
  rintro ⟨fr, ms, ρ, st, w, g⟩
  refine ⟨fr, ms, ρ, st, w, g.bind.mono fun x st1 fr1 H1 ms1 _ _ ⟨e1, s1, g1⟩ v rv => ?_⟩
  cases x with
  | ref p =>
    dsimp only at g1
    cases hx : lstAt st1 p with
    | none =>
      rw [hx] at g1
      exact g1.elim
    | some xs =>
      rw [hx] at g1
      dsimp only [aNil, FL.R.bind] at g1
      rw [hx] at g1
      dsimp only at g1
      obtain ⟨a, rfl, hm, ws, hw, hr⟩ := s1.at rv (lstAt_eq hx)
      cases hf : f xs [] with
      | none =>
        rw [hf] at g1
        exact g1.elim
      | some pr =>
        obtain ⟨z, zs⟩ := pr
        rw [hf] at g1
        have q := QV.of g1
        exact ⟨.inl ⟨rfl, ws, SqL.of hw⟩, h fr1 H1 ms1 a ws xs [] [] z zs Q hw hr .nil hf fun us v ru rz => q.setl (xs := xs) s1 hm ru rz⟩
  | _ => exact g1.elim
section
variable {K : PySem.W.Frag}
def fApp : FM := fun xs ys => match ys with
  | [y] => bif Nat.blt xs.length sizeLine then some (.non, xs ++ [y]) else none
  | _ => none
theorem rm_app : RMF K rAppend fApp := fun fr H ms a ws xs ys vs z zs Q hw hr rs h q => by
  unfold fApp at h
  split at h
  · obtain ⟨hb, h⟩ := cond_some h
    cases h
    obtain ⟨v, rfl, rv⟩ := vrs1 rs
    exact ⟨a, ws, v, rfl, rfl, hw, by rw [hr.length]; exact Nat.le_of_ble_eq_true hb, q _ _ (hr.app (.cons rv .nil)) .non⟩
  · cases h
def fPopAt : FM := fun xs ys => match ys with
  | [.int i] => bif decide (-(2 ^ 63) ≤ i ∧ i < 2 ^ 63) then (match seqIndex? i xs.length with
    | some j => (match xs[j]? with
      | some y => some (y, xs.eraseIdx j)
      | none => none)
    | none => none) else none
  | _ => none
theorem rm_popAt : RMF K rPopAt fPopAt := fun fr H ms a ws xs ys vs z zs Q hw hr rs h q => by
  unfold fPopAt at h
  split at h
  · next i =>
    obtain ⟨hb, h⟩ := cond_some h
    have hb := of_decide_eq_true hb
    obtain ⟨v, rfl, rv⟩ := vrs1 rs
    split at h
    · next j hj =>
      split at h
      · next y hy =>
        cases h
        obtain ⟨u, hu, ru⟩ := hr.get hy
        exact ⟨a, ws, i, j, u, rfl, by rw [vr_int rv], hw, hb.1, hb.2, by rw [hr.length]; exact hj, hu, q _ _ (hr.era j) ru⟩
      · cases h
    · cases h
  · cases h
def fPop : FM := fun xs ys => match ys with
  | [] => (match xs[xs.length - 1]? with
    | some y => some (y, xs.dropLast)
    | none => none)
  | _ => none
theorem VRs.dropLast {fr : Addr → Prop} {H : Hp} {ms : List Addr} {ws : List V} {xs : List Val} (r : VRs K fr H ms ws xs) : VRs K fr H ms ws.dropLast xs.dropLast := by
  rw [List.dropLast_eq_take, List.dropLast_eq_take, r.length]
  exact r.cut _
theorem rm_pop : RMF K rPop fPop := fun fr H ms a ws xs ys vs z zs Q hw hr rs h q => by
  unfold fPop at h
  split at h
  · split at h
    · next y hy =>
      cases h
      cases rs
      rw [← hr.length] at hy
      obtain ⟨u, hu, ru⟩ := hr.get hy
      exact ⟨a, ws, u, rfl, rfl, hw, hu, q _ _ hr.dropLast ru⟩
    · cases h
  · cases h
def fIns : FM := fun xs ys => match ys with
  | [.int i, y] => bif Nat.blt xs.length sizeLine && decide (0 ≤ i ∧ i < 2 ^ 63) then some (.non, xs.take i.toNat ++ y :: xs.drop i.toNat) else none
  | _ => none
theorem rm_ins : RMF K (fun x vs H Q => ∃ (l : Addr) (xs : List V) (i : Int) (y : V), x = .ref l ∧ vs = [.int i, y] ∧ H l = some (.lst xs) ∧ xs.length < sizeLine ∧ 0 ≤ i ∧ i < 2 ^ 63 ∧ Q .non (upd H l (.lst (xs.take i.toNat ++ [y] ++ xs.drop i.toNat)))) fIns := fun fr H ms a ws xs ys vs z zs Q hw hr rs h q => by
  unfold fIns at h
  split at h
  · next i y =>
    obtain ⟨hb, h⟩ := cond_some h
    cases h
    have hb := Bool.and_eq_true_iff.mp hb
    have h2 := of_decide_eq_true hb.2
    obtain ⟨v, u, rfl, rv, ru⟩ := vrs2 rs
    refine ⟨a, ws, i, u, rfl, by rw [vr_int rv], hw, by rw [hr.length]; exact Nat.le_of_ble_eq_true hb.1, h2.1, h2.2, ?_⟩
    rw [List.append_assoc]
    exact q _ _ ((hr.cut _).app (.cons ru (hr.off _))) .non
  · cases h
def fClr : FM := fun _ ys => match ys with
  | [] => some (.non, [])
  | _ => none
theorem rm_clr : RMF K rClear fClr := fun fr H ms a ws xs ys vs z zs Q hw hr rs h q => by
  unfold fClr at h
  split at h
  · cases h
    cases rs
    exact ⟨a, ws, rfl, rfl, hw, q _ _ .nil .non⟩
  · cases h
end
section
variable {X : Cx} {W : WX} {o e : Expr} {es : List Expr} {to : FE} {t : FA} {name : Str} {apos cpos : Pos} {id : String} {r : V → List V → Hp → VK → Prop} {f : FM}
theorem d_m (slot : Slot "list" name id) (hty : typeOf (.builtin id) = pure (.type "method_descriptor")) (hm : MtR X id r) (hf : RMF X.K r f) (ho : DE X W o to) (ha : DA X W (e :: es) t)
    (hbase : attributeBase o name X.env (eval o X.env) = eval o X.env := by rfl)
    (hfew : ((backTo cpos (starEach (e :: es) X.env)).all (fun x => !x.1) && (backToKw cpos (keywordEach [] X.env)).all (fun x => x.1.isSome)
      && decide ((e :: es).length + ([] : List Keyword).length + (if ([] : List Keyword).isEmpty then 0 else 1) < 30)) = true := by rfl)
    (hline : (apos.endLine == cpos.line) = true := by rfl) (hs : starEach (e :: es) X.env = (false, eval e X.env) :: starEach es X.env := by rfl) (hplain : (backTo cpos (starEach es X.env)).any (·.1) = false := by rfl) :
    DE X W (.Call (.Attribute o name apos) (e :: es) [] cpos) (eM f to t) := pe_imp (pe_bm PySem.F.plainAttrs_list slot hty hm ho ha hbase hfew hline hs hplain) fun _ _ _ => le_m hf
theorem d_m0 (slot : Slot "list" name id) (hty : typeOf (.builtin id) = pure (.type "method_descriptor")) (hm : MtR X id r) (hf : RMF X.K r f) (ho : DE X W o to) (hbase : attributeBase o name X.env (eval o X.env) = eval o X.env := by rfl) (hline : (apos.endLine == cpos.line) = true := by rfl) :
    DE X W (.Call (.Attribute o name apos) [] [] cpos) (eM f to aNil) := pe_imp (pe_bm0 PySem.F.plainAttrs_list slot hty hm ho hbase hline) fun _ _ _ => le_m0 hf
/-- xs.extend(ys): ys a list that is made or kept -/
def eExt (to : FE) (ta : FE) : FE := fun ρ st => (to ρ st).bind fun x st1 => match x with
  | .ref p => (match lstAt st1 p with
    | some _ => (ta ρ st1).bind fun y st2 => (match lstAt st2 p, plOf st2 y with
      | some xs, some zs => bif Nat.ble (xs.length + zs.length) sizeLine then .ok .non (st2.set p (.lst (xs ++ zs))) else .bad
      | _, _ => .bad)
    | none => .bad)
  | _ => .bad
theorem d_ext (ho : DE X W o to) {te : FE} (ha : DE X W e te)
    (hbase : attributeBase o "extend" X.env (eval o X.env) = eval o X.env := by rfl)
    (hfew : ((backTo cpos (starEach [e] X.env)).all (fun x => !x.1) && (backToKw cpos (keywordEach [] X.env)).all (fun x => x.1.isSome)
      && decide ([e].length + ([] : List Keyword).length + (if ([] : List Keyword).isEmpty then 0 else 1) < 30)) = true := by rfl)
    (hline : (apos.endLine == cpos.line) = true := by rfl) (hs : starEach [e] X.env = (false, eval e X.env) :: starEach [] X.env := by rfl) (hplain : (backTo cpos (starEach [] X.env)).any (·.1) = false := by rfl) :
    DE X W (.Call (.Attribute o "extend" apos) [e] [] cpos) (eExt to te) := pe_imp (pe_bm PySem.F.plainAttrs_list PySem.F.slot_list_extend PySem.F.type_list_extend mt_extend ho (pa_cons ha pa_nil hs) hbase hfew hline hs hplain) fun σ H Q ⟨fr, ms, ρ, st, w, g⟩ =>
  ⟨fr, ms, ρ, st, w, g.bind.mono fun x st1 fr1 H1 ms1 _ _ ⟨e1, s1, g1⟩ v rv => by
    cases x with
    | ref p =>
      dsimp only at g1
      cases hx : lstAt st1 p with
      | none =>
        rw [hx] at g1
        exact g1.elim
      | some xs =>
        rw [hx] at g1
        dsimp only at g1
        obtain ⟨a, rfl, hm, ws, hw, _⟩ := s1.at rv (lstAt_eq hx)
        refine ⟨.inl ⟨rfl, ws, SqL.of hw⟩, fr1, ms1, ρ, st1, w.on e1 s1, g1.bind.mono fun y st2 fr2 H2 ms2 _ _ ⟨e2, s2, g2⟩ u ru => ?_⟩
        cases hx2 : lstAt st2 p with
        | none =>
          rw [hx2] at g2
          exact g2.elim
        | some xs2 =>
          rw [hx2] at g2
          cases hy : plOf st2 y with
          | none =>
            rw [hy] at g2
            exact g2.elim
          | some zs =>
            rw [hy] at g2
            obtain ⟨hb, g3⟩ := g2.cond
            have q := QV.of g3
            obtain ⟨b, eb, hm2, ws2, hw2, hr2⟩ := s2.at (rv.ex s1 e2) (lstAt_eq hx2)
            cases eb
            obtain ⟨c, us, rfl, hu, hru⟩ := pl_at s2 ru hy
            exact ⟨a, c, ws2, us, rfl, rfl, hw2, hu, by rw [hr2.length, hru.length]; exact Nat.le_of_ble_eq_true hb, q.setl (xs := xs2) s2 hm2 (hr2.app hru) .non⟩
    | _ => exact g1.elim⟩
end
end FL
namespace FL
open PySem PySem.Spec PyProof.Rows L2
/-! ### x[::-1] -/
def revF (c : Bool) (x : Val) (st : Store) : OV := match x with
  | .tup xs => some (.tup xs.reverse, st)
  | x => (match lstOf st x with
    | some xs => some (newL c xs.reverse st)
    | none => none)
def eRev (c : Bool) (te : FE) : FE := fun ρ st => (te ρ st).bind fun x st1 => R.opt (revF c x st1)
theorem d_rev (c : Bool) {X : Cx} {W : WX} {e : Expr} {te : FE} {k : Nat} {p1 p2 p3 pos : Pos} (he : DE X W e te) : DE X W (.Subscript e (.Slice none none (some (.UnaryOp .USub (.Constant (.int 1) k p1) p2)) p3) pos) (eRev c te) := pe_imp (pe_revU he) fun σ H Q ⟨fr, ms, ρ, st, w, g⟩ =>
  ⟨fr, ms, ρ, st, w, g.bind.mono fun x st1 fr1 H1 ms1 _ _ ⟨e1, s1, g1⟩ v rv => by
    obtain ⟨z, st4, hz, q⟩ := g1.opt
    unfold revF at hz
    split at hz
    · cases hz
      obtain ⟨a, ws, rfl, h1, h2⟩ := vr_tup rv
      exact ⟨a, ws, rfl, .inr ⟨h1, fun p n => q.tup s1 h2.rev n⟩⟩
    · split at hz
      · next xs hx =>
        obtain ⟨e5, e6⟩ := newl_out hz
        rw [← e5, ← e6] at q
        obtain ⟨a, ws, rfl, hs, hr⟩ := lst_at s1 rv hx
        exact ⟨a, ws, rfl, .inl ⟨hs, fun p n => q.newl s1 hr.rev n⟩⟩
      · cases hz⟩
/-! ### enumerate, zip -/
/-- a value's kind, and its items by an iterator's store -/
theorem cur_kind {K : PySem.W.Frag} {fr : Addr → Prop} {H : Hp} {ms : List Addr} {st : Store} {x : Val} {v : V} {cur : Its} (s : SR K fr H ms st) (r : VR K fr H ms v x) (h : curOf st x = some cur) :
    ∃ a t ws, v = .ref a ∧ SqK K H a t ws ∧ ∀ fr' H' ms' st' xs, Ext ms.length fr H ms fr' H' ms' → SR K fr' H' ms' st' → cur st' = some xs → ∃ ws, SqK K H' a t ws ∧ VRs K fr' H' ms' ws xs := by
  unfold curOf at h
  split at h
  · next p =>
    split at h
    · next xs hx =>
      cases h
      obtain ⟨a, rfl, hm, ws, hw, hr⟩ := s.at r (lstAt_eq hx)
      refine ⟨a, false, ws, rfl, SqL.of hw, fun fr2 H2 ms2 st2 ys e2 s2 hy => ?_⟩
      obtain ⟨b, eb, _, zs, hz, hr2⟩ := s2.at (r.ex s e2) (lstAt_eq hy)
      cases eb
      exact ⟨zs, SqL.of hz, hr2⟩
    · cases h
  · cases h
    obtain ⟨a, ws, rfl, h1, h2⟩ := vr_tup r
    refine ⟨a, true, ws, rfl, h1, fun fr2 H2 ms2 st2 ys e2 s2 hy => ?_⟩
    cases hy
    exact ⟨ws, sqt_ex s e2 h1, h2.ex s e2⟩
  · cases h
    obtain ⟨a, ws, rfl, h1, h2⟩ := vr_ro r
    refine ⟨a, false, ws, rfl, SqL.of h1, fun fr2 H2 ms2 st2 ys e2 s2 hy => ?_⟩
    cases hy
    obtain ⟨b, ws2, eb, h3, h4⟩ := vr_ro (r.ex s e2)
    cases eb
    exact ⟨ws2, SqL.of h3, h4⟩
  · cases h
    obtain ⟨a, ws, rfl, h1, h2⟩ := vr_wr r
    refine ⟨a, false, ws, rfl, h1.sql, fun fr2 H2 ms2 st2 ys e2 s2 hy => ?_⟩
    cases hy
    exact ⟨ws, h1.sqx s e2, h2.ex s e2⟩
  · cases h
theorem pr_new {K : PySem.W.Frag} {fr : Addr → Prop} {H : Hp} {ms : List Addr} {st : Store} (s : SR K fr H ms st) {T : Addr} {x y : V} {d e : Val} (n : H T = none) (rx : VR K fr H ms x d) (ry : VR K fr H ms y e) :
    ∃ fr', Ext ms.length fr H ms fr' (upd H T (.tup [x, y])) ms ∧ SR K fr' (upd H T (.tup [x, y])) ms st ∧ VR K fr' (upd H T (.tup [x, y])) ms (.ref T) (.tup [d, e]) :=
  ⟨fr, Ext.new _ n, s.new n, .tup (SqT.of upd_same) ((VRs.cons rx (.cons ry .nil)).ex s (Ext.new _ n))⟩
def enL (xs : List Val) : List Val := xs.mapIdx fun i d => .tup [.int (i : Nat), d]
theorem enL_len (ds : List Val) : (enL ds).length = ds.length := List.length_mapIdx
theorem enL_get {ds : List Val} {i : Nat} {x : Val} (h : (enL ds)[i]? = some x) : ∃ d, ds[i]? = some d ∧ x = .tup [.int (i : Nat), d] := by
  unfold enL at h
  rw [List.getElem?_mapIdx] at h
  cases e : ds[i]? with
  | none =>
    rw [e] at h
    cases h
  | some d =>
    rw [e] at h
    cases h
    exact ⟨d, rfl, rfl⟩
def enC (cur : Its) : Its := fun st => match cur st with
  | some xs => some (enL xs)
  | none => none
def iEn (ta : FA) : FI := fun ρ st => (ta ρ st).bind fun xs st1 => match xs with
  | [x] => (match curOf st1 x with
    | some cur => .ok (enC cur) st1
    | none => .bad)
  | _ => .bad
theorem i_enum {X : Cx} {W : WX} {e : Expr} {ta : FA} {p pos tpos : Pos} {elts : List Expr} {kk : Nat} (hm : X.mg "enumerate" = none) (ha : DA X W [e] ta) (hg : Gl X "enumerate" := by rfl) (hs : starEach [e] X.env = [(false, eval e X.env)] := by rfl) :
    DI X W (.Tuple elts kk tpos) (.Call (.Name "enumerate" p) [e] [] pos) (iEn ta) := pi_imp (pi_enB hg hm ha hs) fun σ H R ⟨fr, ms, ρ, st, w, g⟩ =>
  ⟨fr, ms, ρ, st, w, g.bind.mono fun xs st1 fr1 H1 ms1 _ _ ⟨e1, s1, g1⟩ vs rs => by
    split at g1
    · next x _ =>
      obtain ⟨v, rfl, rv⟩ := vrs1 rs
      cases hc : curOf st1 x with
      | none =>
        rw [hc] at g1
        exact g1.elim
      | some cur =>
        rw [hc] at g1
        obtain ⟨a, t, xa, rfl, qa, ga⟩ := cur_kind s1 rv hc
        refine ⟨a, t, xa, rfl, qa, g1.now s1 _ fun i fr2 H2 ms2 st2 ys e2 s2 hy => ?_⟩
        unfold enC at hy
        cases hu : cur st2 with
        | none =>
          rw [hu] at hy
          cases hy
        | some us =>
          rw [hu] at hy
          cases hy
          obtain ⟨ws, q2, r2⟩ := ga fr2 H2 ms2 st2 us e2 s2 hu
          refine ⟨fun x hx => ?_, fun hi => ⟨ws, q2, by rw [enL_len] at hi; rw [r2.length]; exact hi⟩⟩
          obtain ⟨d, hd', rfl⟩ := enL_get hx
          obtain ⟨v, hv, rv⟩ := r2.get hd'
          refine ⟨⟨ws, v, q2, hv⟩, fun z H3 y3 => ?_⟩
          obtain ⟨T, x, rfl, hT, rfl, g⟩ := y3
          have ex : x = v := Option.some.inj ((g ws q2).symm.trans hv)
          subst ex
          exact pr_new s2 hT (.int _) rv
    · exact g1.elim⟩
def prV (x y : Val) : Val := .tup [x, y]
def zpC (b : Bool) (c1 c2 : Its) : Its := fun st => match c1 st, c2 st with
  | some xs, some ys => bif b && !(xs.length == ys.length) then none else some (List.zipWith prV xs ys)
  | _, _ => none
def iZpB (b : Bool) (ta : FA) : FI := fun ρ st => (ta ρ st).bind fun xs st1 => match xs with
  | [x, y] => (match curOf st1 x, curOf st1 y with
    | some c1, some c2 => .ok (zpC b c1 c2) st1
    | _, _ => .bad)
  | _ => .bad
theorem li_zp {K : PySem.W.Frag} {W : WX} {b : Bool} {ta : FA} {σ : L2.St} {H : Hp} {R : It → Hp → Prop} : LI K W (iZpB b ta) σ H R → tZip K b (LA K W ta) σ H R := fun ⟨fr, ms, ρ, st, w, g⟩ =>
  ⟨fr, ms, ρ, st, w, g.bind.mono fun xs st1 fr1 H1 ms1 _ _ ⟨e1, s1, g1⟩ vs rs => by
    split at g1
    · next x y _ =>
      obtain ⟨v, u, rfl, rv, ru⟩ := vrs2 rs
      cases hc1 : curOf st1 x with
      | none =>
        cases hc2 : curOf st1 y <;> (rw [hc1, hc2] at g1; exact g1.elim)
      | some c1 =>
        cases hc2 : curOf st1 y with
        | none =>
          rw [hc1, hc2] at g1
          exact g1.elim
        | some c2 =>
          rw [hc1, hc2] at g1
          obtain ⟨a, t1, xa, rfl, qa, ga⟩ := cur_kind s1 rv hc1
          obtain ⟨c, t2, xc, rfl, qc, gc⟩ := cur_kind s1 ru hc2
          refine ⟨a, c, t1, t2, xa, xc, rfl, qa, qc, g1.now s1 _ fun i fr2 H2 ms2 st2 zs e2 s2 hz => ?_⟩
          unfold zpC at hz
          cases h1 : c1 st2 with
          | none =>
            rw [h1] at hz
            cases hz
          | some us =>
            cases h2 : c2 st2 with
            | none =>
              rw [h1, h2] at hz
              cases hz
            | some ws =>
              rw [h1, h2] at hz
              dsimp only at hz
              have hb : b = true → us.length = ws.length := fun z => by
                subst z
                by_cases hl : us.length = ws.length
                · exact hl
                · rw [show (us.length == ws.length) = false by simpa using hl] at hz
                  cases hz
              have hz' : zs = List.zipWith prV us ws := by
                cases hq : (b && !(us.length == ws.length)) with
                | true =>
                  rw [hq] at hz
                  cases hz
                | false =>
                  rw [hq] at hz
                  cases hz
                  rfl
              subst hz'
              obtain ⟨as, q1, r1⟩ := ga fr2 H2 ms2 st2 us e2 s2 h1
              obtain ⟨bs, q2, r2⟩ := gc fr2 H2 ms2 st2 ws e2 s2 h2
              have l1 := r1.length
              have l2 := r2.length
              refine ⟨fun x hx => ?_, fun hi => ⟨as, bs, q1, q2, ?_⟩⟩
              · rw [List.getElem?_zipWith] at hx
                cases e : us[i]? with
                | none =>
                  rw [e] at hx
                  simp at hx
                | some d =>
                  cases e' : ws[i]? with
                  | none =>
                    rw [e, e'] at hx
                    simp at hx
                  | some f =>
                    rw [e, e'] at hx
                    cases hx
                    obtain ⟨v, hv, rv⟩ := r1.get e
                    obtain ⟨u, hu, ru⟩ := r2.get e'
                    refine ⟨⟨as, bs, v, u, q1, q2, hv, hu⟩, fun z H3 y3 => ?_⟩
                    obtain ⟨T, x, y, rfl, hT, rfl, g1, g2⟩ := y3
                    have ex : x = v := Option.some.inj ((g1 as q1).symm.trans hv)
                    have ey : y = u := Option.some.inj ((g2 bs q2).symm.trans hu)
                    subst ex ey
                    exact pr_new s2 hT rv ru
              · rw [List.length_zipWith] at hi
                cases b with
                | true =>
                  have hl := hb rfl
                  exact ⟨by omega, by omega⟩
                | false => exact (show as.length ≤ i ∨ bs.length ≤ i by omega)
    · exact g1.elim⟩
theorem i_zip {X : Cx} {W : WX} {e e2 : Expr} {ta : FA} {p pos tpos : Pos} {elts : List Expr} {kk : Nat} (hm : X.mg "zip" = none) (ha : DA X W [e, e2] ta) (hg : Gl X "zip" := by rfl)
    (hs : starEach [e, e2] X.env = (false, eval e X.env) :: starEach [e2] X.env := by rfl) (hpl : (backTo pos (starEach [e2] X.env)).any (·.1) = false := by rfl) :
    DI X W (.Tuple elts kk tpos) (.Call (.Name "zip" p) [e, e2] [] pos) (iZpB false ta) := pi_imp (pi_zb hg hm ha hs hpl) fun _ _ _ => li_zp
theorem i_zipS {X : Cx} {W : WX} {e e2 : Expr} {ta : FA} {p pos tpos kp kpos : Pos} {elts : List Expr} {kk kj : Nat} (hm : X.mg "zip" = none) (ha : DA X W [e, e2] ta) (hg : Gl X "zip" := by rfl)
    (hs : starEach [e, e2] X.env = (false, eval e X.env) :: starEach [e2] X.env := by rfl) (hpl : (backTo pos (starEach [e, e2] X.env)).any (·.1) = false := by rfl) :
    DI X W (.Tuple elts kk tpos) (.Call (.Name "zip" p) [e, e2] [⟨some "strict", .Constant (.bool true) kj kp, kpos⟩] pos) (iZpB true ta) := pi_imp (pi_zs hg hm ha hs hpl) fun _ _ _ => li_zp
/-! ### list(range(..)), tuple(range(..)) -/
theorem rg_rel {K : PySem.W.Frag} {fr : Addr → Prop} {H : Hp} {ms : List Addr} (a b : Int) : VRs K fr H ms (rgV a b) (rngs a (b - a).toNat) := by
  unfold rgV rngs
  generalize List.range (b - a).toNat = l
  induction l with
  | nil => exact .nil
  | cons i r ih => exact .cons (.int _) ih
def okRgB (a b : Int) : Bool := okRg a b && decide ((b - a).toNat ≤ sizeLine)
def eListRg1 (c : Bool) (ta : FE) : FE := fun ρ st => (ta ρ st).bind fun x st1 => match x with
  | .int n => bif okRgB 0 n then .ok (newL c (rngs 0 (n - 0).toNat) st1).1 (newL c (rngs 0 (n - 0).toNat) st1).2 else .bad
  | _ => .bad
def eTupRg1 (ta : FE) : FE := fun ρ st => (ta ρ st).bind fun x st1 => match x with
  | .int n => bif okRgB 0 n then .ok (.tup (rngs 0 (n - 0).toNat)) st1 else .bad
  | _ => .bad
def eListRg2 (c : Bool) (ta tb : FE) : FE := fun ρ st => (ta ρ st).bind fun x st1 => (tb ρ st1).bind fun y st2 => match x, y with
  | .int a, .int b => bif okRgB a b then .ok (newL c (rngs a (b - a).toNat) st2).1 (newL c (rngs a (b - a).toNat) st2).2 else .bad
  | _, _ => .bad
def eTupRg2 (ta tb : FE) : FE := fun ρ st => (ta ρ st).bind fun x st1 => (tb ρ st1).bind fun y st2 => match x, y with
  | .int a, .int b => bif okRgB a b then .ok (.tup (rngs a (b - a).toNat)) st2 else .bad
  | _, _ => .bad
theorem okRgB_at {a b : Int} (h : okRgB a b = true) : RgOk a b := by
  have h := Bool.and_eq_true_iff.mp h
  have h1 := of_decide_eq_true h.1
  have h2 := of_decide_eq_true h.2
  exact ⟨h1.1, h1.2.1, h1.2.2.1, h1.2.2.2, h2⟩
section
variable {X : Cx} {W : WX} {e e2 : Expr} {te te2 : FE} {p p2 pos pos2 : Pos}
theorem d_listRg1 (c : Bool) (hml : X.mg "list" = none) (hmr : X.mg "range" = none) (he : DE X W e te) (hc : X.calm = true := by rfl) (hgl : Gl X "list" := by rfl) (hgr : Gl X "range" := by rfl)
    (na : starEach [e] X.env = (false, eval e X.env) :: starEach [] X.env := by rfl) (nb : starEach [.Call (.Name "range" p2) [e] [] pos2] X.env = (false, eval (.Call (.Name "range" p2) [e] [] pos2) X.env) :: starEach [] X.env := by rfl) :
    DE X W (.Call (.Name "list" p) [.Call (.Name "range" p2) [e] [] pos2] [] pos) (eListRg1 c te) := pe_imp (pe_listRg hc hgl hml (prg_1 hgr hmr he na) nb) fun σ H Q ⟨fr, ms, ρ, st, w, g⟩ =>
  ⟨fr, ms, ρ, st, w, g.bind.mono fun x st1 fr1 H1 ms1 _ _ ⟨e1, s1, g1⟩ v rv => by
    split at g1
    · obtain ⟨hb, g2⟩ := g1.cond
      exact ⟨_, vr_int rv, okRgB_at hb, fun p n => (QV.of g2).newl s1 (rg_rel _ _) n⟩
    · exact g1.elim⟩
theorem d_tupRg1 (hml : X.mg "tuple" = none) (hmr : X.mg "range" = none) (he : DE X W e te) (hc : X.calm = true := by rfl) (hgl : Gl X "tuple" := by rfl) (hgr : Gl X "range" := by rfl)
    (na : starEach [e] X.env = (false, eval e X.env) :: starEach [] X.env := by rfl) (nb : starEach [.Call (.Name "range" p2) [e] [] pos2] X.env = (false, eval (.Call (.Name "range" p2) [e] [] pos2) X.env) :: starEach [] X.env := by rfl) :
    DE X W (.Call (.Name "tuple" p) [.Call (.Name "range" p2) [e] [] pos2] [] pos) (eTupRg1 te) := pe_imp (pe_tupRg hc hgl hml (prg_1 hgr hmr he na) nb) fun σ H Q ⟨fr, ms, ρ, st, w, g⟩ =>
  ⟨fr, ms, ρ, st, w, g.bind.mono fun x st1 fr1 H1 ms1 _ _ ⟨e1, s1, g1⟩ v rv => by
    split at g1
    · obtain ⟨hb, g2⟩ := g1.cond
      exact ⟨_, vr_int rv, okRgB_at hb, fun p n => (QV.of g2).tup s1 (rg_rel _ _) n⟩
    · exact g1.elim⟩
theorem d_listRg2 (c : Bool) (hml : X.mg "list" = none) (hmr : X.mg "range" = none) (he : DE X W e te) (he2 : DE X W e2 te2) (hc : X.calm = true := by rfl) (hgl : Gl X "list" := by rfl) (hgr : Gl X "range" := by rfl)
    (na : starEach [e, e2] X.env = (false, eval e X.env) :: starEach [e2] X.env := by rfl) (nc : starEach [e2] X.env = (false, eval e2 X.env) :: starEach [] X.env := by rfl) (hp : (backTo pos2 (starEach [e2] X.env)).any (·.1) = false := by rfl)
    (nb : starEach [.Call (.Name "range" p2) [e, e2] [] pos2] X.env = (false, eval (.Call (.Name "range" p2) [e, e2] [] pos2) X.env) :: starEach [] X.env := by rfl) :
    DE X W (.Call (.Name "list" p) [.Call (.Name "range" p2) [e, e2] [] pos2] [] pos) (eListRg2 c te te2) := pe_imp (pe_listRg hc hgl hml (prg_2 hgr hmr he he2 na nc hp) nb) fun σ H Q ⟨fr, ms, ρ, st, w, g⟩ =>
  ⟨fr, ms, ρ, st, w, g.bind.mono fun x st1 fr1 H1 ms1 _ _ ⟨e1, s1, g1⟩ v rv => ⟨fr1, ms1, ρ, st1, w.on e1 s1, g1.bind.mono fun y st2 fr2 H2 ms2 _ _ ⟨e2, s2, g2⟩ u ru => by
    split at g2
    · obtain ⟨hb, g3⟩ := g2.cond
      exact ⟨_, _, vr_int rv, vr_int ru, okRgB_at hb, fun p n => (QV.of g3).newl s2 (rg_rel _ _) n⟩
    · exact g2.elim⟩⟩
theorem d_tupRg2 (hml : X.mg "tuple" = none) (hmr : X.mg "range" = none) (he : DE X W e te) (he2 : DE X W e2 te2) (hc : X.calm = true := by rfl) (hgl : Gl X "tuple" := by rfl) (hgr : Gl X "range" := by rfl)
    (na : starEach [e, e2] X.env = (false, eval e X.env) :: starEach [e2] X.env := by rfl) (nc : starEach [e2] X.env = (false, eval e2 X.env) :: starEach [] X.env := by rfl) (hp : (backTo pos2 (starEach [e2] X.env)).any (·.1) = false := by rfl)
    (nb : starEach [.Call (.Name "range" p2) [e, e2] [] pos2] X.env = (false, eval (.Call (.Name "range" p2) [e, e2] [] pos2) X.env) :: starEach [] X.env := by rfl) :
    DE X W (.Call (.Name "tuple" p) [.Call (.Name "range" p2) [e, e2] [] pos2] [] pos) (eTupRg2 te te2) := pe_imp (pe_tupRg hc hgl hml (prg_2 hgr hmr he he2 na nc hp) nb) fun σ H Q ⟨fr, ms, ρ, st, w, g⟩ =>
  ⟨fr, ms, ρ, st, w, g.bind.mono fun x st1 fr1 H1 ms1 _ _ ⟨e1, s1, g1⟩ v rv => ⟨fr1, ms1, ρ, st1, w.on e1 s1, g1.bind.mono fun y st2 fr2 H2 ms2 _ _ ⟨e2, s2, g2⟩ u ru => by
    split at g2
    · obtain ⟨hb, g3⟩ := g2.cond
      exact ⟨_, _, vr_int rv, vr_int ru, okRgB_at hb, fun p n => (QV.of g3).tup s2 (rg_rel _ _) n⟩
    · exact g2.elim⟩⟩
end
/-! ### several names at once -/
theorem s_par (i j : Nat) {X : Cx} {W : WX} {x y : Str} {a b : Expr} {ta : FA} {px py pt pos : Pos} {kt k2 pt2} (hc : X.calm = true) (hN : X.N.Nodup) (ha : DA X W [a, b] ta) (hi : X.N[i]? = some x := by rfl) (hj : X.N[j]? = some y := by rfl) (hij : i ≠ j := by decide)
    (hx : X.env.scope.names.lookup x = some .local := by rfl) (hy : X.env.scope.names.lookup y = some .local := by rfl)
    (hw : swappedStores [.Tuple [.Name x px, .Name y py] kt pt] (.Tuple [a, b] k2 pt2) X.env = pure (some [x, y]) := by rfl)
    (hs : swapsWithSole [.Tuple [.Name x px, .Name y py] kt pt] (.Tuple [a, b] k2 pt2) pos.line X.env = pure false := by rfl) :
    DS X W (.Assign [.Tuple [.Name x px, .Name y py] kt pt] (.Tuple [a, b] k2 pt2) pos) (sPar i j ta) := ps_imp (ps_par hc hN hi hj hij hx hy ha hw hs) fun _ _ _ => le_par
def sPar3 (i j l : Nat) (ta : FA) : FS := fun ρ st => (ta ρ st).to ρ fun xs st1 => match xs with
  | [x, y, z] => .nx (((ρ.set i (some x)).set j (some y)).set l (some z)) st1
  | _ => .bad
theorem s_par3 (i j l : Nat) {X : Cx} {W : WX} {x y z : Str} {a b c : Expr} {ta : FA} {px py pz pt pos : Pos} {kt k2 pt2} (hc : X.calm = true) (hN : X.N.Nodup) (ha : DA X W [a, b, c] ta) (hi : X.N[i]? = some x := by rfl) (hj : X.N[j]? = some y := by rfl) (hl : X.N[l]? = some z := by rfl) (hij : i ≠ j := by decide) (hil : i ≠ l := by decide) (hjl : j ≠ l := by decide)
    (hx : X.env.scope.names.lookup x = some .local := by rfl) (hy : X.env.scope.names.lookup y = some .local := by rfl) (hz : X.env.scope.names.lookup z = some .local := by rfl)
    (hw : swappedStores [.Tuple [.Name x px, .Name y py, .Name z pz] kt pt] (.Tuple [a, b, c] k2 pt2) X.env = pure (some [x, y, z]) := by rfl)
    (hs : swapsWithSole [.Tuple [.Name x px, .Name y py, .Name z pz] kt pt] (.Tuple [a, b, c] k2 pt2) pos.line X.env = pure false := by rfl) :
    DS X W (.Assign [.Tuple [.Name x px, .Name y py, .Name z pz] kt pt] (.Tuple [a, b, c] k2 pt2) pos) (sPar3 i j l ta) := ps_imp (ps_par3 hc hN hi hj hl hij hil hjl hx hy hz ha hw hs) fun D σ H ⟨fr, ms, ρ, st, w, g⟩ =>
  ⟨fr, ms, ρ, st, w, (g.to w).mono fun xs st1 fr1 H1 ms1 _ _ ⟨e1, s1, w1, g1⟩ vs rs => by
    split at g1
    · cases rs with
      | cons a r =>
        cases r with
        | cons b r =>
          cases r with
          | cons c r =>
            cases r
            exact ⟨_, _, _, rfl, g1.nx (((w1.put a i).put b j).put c l)⟩
    · exact g1.elim⟩
/-- (targets) = (values), by a tuple that is made and put aside -/
def sUnp (n : Nat) (ta : FA) (gs : FGs) : FS := fun ρ st => (ta ρ st).to ρ fun xs st1 => bif xs.length == n then (match gs xs ρ st1 with
  | some (ρ', st') => .nx ρ' st'
  | none => .bad) else .bad
theorem s_unp {X : Cx} {W : WX} {pos p1 p2 : Pos} {k1 k2 : Nat} {ts es : List Expr} {ta : FA} {gs : FGs} {vs : List Nat} {n : Nat} (hc : X.calm = true) (ha : DA X W es ta) (hg : DGs X vs ts gs) (hn : (assignEach ts X.env).length = n := by rfl) (hz : n ≤ sizeLine := by decide) (hst : (assignEach ts X.env).findIdx? (·.1) = none := by rfl)
    (hs : swapsWithSole [.Tuple ts k1 p1] (.Tuple es k2 p2) pos.line X.env = pure false := by rfl) (hw : swappedStores [.Tuple ts k1 p1] (.Tuple es k2 p2) X.env = pure none := by rfl)
    (h1 : (assignEach [.Tuple ts k1 p1] X.env).map (·.2) = [assign (.Tuple ts k1 p1) X.env] := by rfl) : DS X W (.Assign [.Tuple ts k1 p1] (.Tuple es k2 p2) pos) (sUnp n ta gs) := ps_imp (ps_asg (pe_tup ha) (pg_tup hc hg hn hst) hs hw h1) fun D σ H ⟨fr, ms, ρ, st, w, g⟩ =>
  ⟨fr, ms, ρ, st, w, (g.to w).mono fun xs st1 fr1 H1 ms1 _ _ ⟨e1, s1, w1, g1⟩ vs' rs => by
    cases hl : (xs.length == n) with
    | false =>
      rw [hl] at g1
      exact g1.elim
    | true =>
      rw [hl] at g1
      have hl := beq_nat hl
      dsimp only [cond_true] at g1
      cases hgs : gs xs ρ st1 with
      | none =>
        rw [hgs] at g1
        exact g1.elim
      | some pr =>
        rw [hgs] at g1
        refine ⟨by rw [rs.length, hl]; exact hz, fun p np => ⟨p, vs', rfl, SqT.of upd_same, by rw [rs.length, hl], fr1, ms1, ρ, st1, xs, pr.1, pr.2, w1.on (Ext.new _ np) (s1.new np), rs.ex s1 (Ext.new _ np), hgs, fun fr2 H2 ms2 σ2 e2 w2 _ => ?_⟩⟩
        exact g1 _ _ _ _ ((Ext.new _ np).then e2) w2⟩
section
variable {X : Cx} {W : WX} {elt tg iter : Expr} {ifs : List Expr} {scope : Scope} {pos : Pos} {wi : FI} {g : FG} {tt : FT} {te : FE}
theorem s_setLc (c : Bool) (i : Nat) {y : Str} {py spos : Pos} (own : List (Str × Nat)) (hc : X.calm = true) (hN : X.N.Nodup) (hi : DI X W tg iter wi) (ok : BlkOk X.N X.env.scope scope own)
    (hg : ∀ (s : Shared) (H : Hp) (C : Addr) (cl : List (Str × Addr)) (fp : List Addr), DG (X.blk s H scope (compEnvC scope cl C X.env) fp) (own.map (·.2)) tg g) (ht : ∀ (s : Shared) (H : Hp) (C : Addr) (cl : List (Str × Addr)) (fp : List Addr), DTs (X.blk s H scope (compEnvC scope cl C X.env) fp) noW ifs tt)
    (he : ∀ (s : Shared) (H : Hp) (C : Addr) (cl : List (Str × Addr)) (fp : List Addr), DE (X.blk s H scope (compEnvC scope cl C X.env) fp) noW elt te) (hs : ∀ x, foldedSetIterable iter X.env x = pure x := by intro _; rfl)
    (hy : X.N[i]? = some y := by rfl) (hyl : X.env.scope.names.lookup y = some .local := by rfl) (hsw : swapsWith (.ListComp elt [⟨tg, iter, ifs, 0⟩] scope pos) (some (.Name y py)) spos.line X.env = pure true := by exact sw_true rfl rfl rfl (by decide +kernel)) :
    DS X W (.Assign [.Name y py] (.ListComp elt [⟨tg, iter, ifs, 0⟩] scope pos) spos) (sSet i (eLc c wi g tt te (own.map (·.2)))) := ps_imp (ps_setLc hc hN hy hyl hsw hi ok hg ht he hs) fun _ _ _ => le_setLc
end
/-! ### o[i] = e of lists and dicts -/
def R.val {α : Type} : R α → Option (α × Store)
  | .ok a st => some (a, st)
  | _ => none
def gSub (to ti : FE) : FG := fun x ρ st => match to ρ st with
  | .ok (.ref p) st1 => (match ti ρ st1 with
    | .ok i st2 => (match st2[p]? with
      | some (.lst xs) => (match i with
        | .int i => (match ixN xs.length i with
          | some j => some (ρ, st2.set p (.lst (xs.set j x)))
          | none => none)
        | _ => none)
      | some (.dic es) => (match keyOf i with
        | some key => bif Nat.blt es.length sizeLine then some (ρ, st2.set p (.dic (putS es key x))) else none
        | none => none)
      | _ => none)
    | _ => none)
  | _ => none
theorem g_sub {X : Cx} {pos : Pos} {o i : Expr} {to ti : FE} {vs : List Nat} (hu : X.A.units + 1 < cLine) (ho : DE X noW o to) (hi : DE X noW i ti)
    (ha : ∀ v, assign (.Subscript o i pos) X.env v = (do
      let ov ← holding [v] (eval o X.env)
      let iv ← holding [v, ov] (eval i X.env)
      standAt pos
      holding [v, ov, iv] (setItem ov iv v)
      release [v, ov, iv] []) := by intro _; rfl) : DG X vs (.Subscript o i pos) (gSub to ti) := pg_imp (pg_sub ho hi (PSet.or set_list (set_dct hu)) ha) fun v σ H Q ⟨fr, ms, ρ, st, x, ρ', st', w, r, h, q⟩ => by
  unfold gSub at h
  split at h
  · next p st1 h1 =>
    split at h
    · next y st2 h2 =>
      refine ⟨fr, ms, ρ, st, w, ?_⟩
      rw [h1]
      intro fr1 H1 ms1 e1 s1 u ru
      refine ⟨fr1, ms1, ρ, st1, w.on e1 s1, ?_⟩
      rw [h2]
      intro fr2 H2 ms2 e2 s2 t rt
      have hv : VR X.K fr2 H2 ms2 v x := r.ex w.sr (e1.then e2)
      have hp := ru.ex s1 e2
      have w2 := w.on (e1.then e2) s2
      split at h
      · next xs hx =>
        split at h
        · next i =>
          split at h
          · next j hj =>
            cases h
            obtain ⟨a, rfl, hm, ws, hw, hr⟩ := s2.at hp hx
            have hmm := List.mem_of_getElem? hm
            refine .inl ⟨a, ws, i, j, rfl, vr_int rt, hw, by rw [hr.length]; exact hj, ?_⟩
            have e3 := Ext.upd (fr := fr2) (o := .lst (ws.set j v)) ms2.length hmm (s2.there hmm)
            have s3 := s2.set hm (c := .lst (xs.set j x)) (o := .lst (ws.set j v)) ⟨_, upd_same, (VRs.put hv j hr).ex s2 e3⟩
            exact q _ _ _ _ ((e1.then e2).then e3) (w2.on e3 s3) rfl
          · cases h
        · cases h
      · next es hx =>
        split at h
        · next key hk =>
          obtain ⟨hb, h⟩ := cond_some h
          cases h
          obtain ⟨a, rfl, hm, ws, hw, hr⟩ := s2.at hp hx
          have hmm := List.mem_of_getElem? hm
          obtain rfl := key_at rt hk
          refine .inr ⟨a, _, rfl, DPut.k hw (by rw [hr.length]; exact Nat.le_of_ble_eq_true hb), ?_⟩
          have e3 := Ext.upd (fr := fr2) (o := .dK (putK ws key v)) ms2.length hmm (s2.there hmm)
          have s3 := s2.set hm (c := .dic (putS es key x)) (o := .dK (putK ws key v)) ⟨_, upd_same, (hr.put key hv).ex s2 e3⟩
          exact q _ _ _ _ ((e1.then e2).then e3) (w2.on e3 s3) rfl
        · cases h
      · cases h
    · cases h
  · cases h
/-! ### sorted -/
section
variable {α : Type}
def insB (le : α → α → Bool) (x : α) : List α → List α
  | [] => [x]
  | y :: r => bif le x y then x :: y :: r else y :: insB le x r
def isort (le : α → α → Bool) : List α → List α
  | [] => []
  | x :: r => insB le x (isort le r)
theorem insB_perm (le : α → α → Bool) (x : α) : ∀ l : List α, (insB le x l).Perm (x :: l)
  | [] => .refl _
  | y :: r => by
    unfold insB
    cases le x y with
    | true => exact .refl _
    | false => exact ((insB_perm le x r).cons y).trans (.swap x y r)
theorem isort_perm (le : α → α → Bool) : ∀ l : List α, (isort le l).Perm l
  | [] => .refl _
  | x :: r => (insB_perm le x _).trans ((isort_perm le r).cons x)
theorem insB_pw {le : α → α → Bool} {P : α → Prop} (tot : ∀ a b, P a → P b → le a b = false → le b a = true) (tr : ∀ a b c, P a → P b → P c → le a b = true → le b c = true → le a c = true) {x : α} (px : P x) : ∀ {l : List α}, (∀ y ∈ l, P y) → l.Pairwise (fun a b => le a b = true) → (insB le x l).Pairwise (fun a b => le a b = true)
  | [], _, _ => .cons (fun _ z => by cases z) .nil
  | y :: r, hp, h => by
    unfold insB
    have py := hp y List.mem_cons_self
    have pr : ∀ z ∈ r, P z := fun z hz => hp z (List.mem_cons_of_mem _ hz)
    cases h with
    | cons h1 h2 =>
      cases e : le x y with
      | true =>
        refine .cons (fun z hz => ?_) (.cons h1 h2)
        rcases List.mem_cons.mp hz with rfl | hz
        · exact e
        · exact tr x y z px py (pr z hz) e (h1 z hz)
      | false =>
        refine .cons (fun z hz => ?_) (insB_pw tot tr px pr h2)
        rcases List.mem_cons.mp ((insB_perm le x r).mem_iff.mp hz) with rfl | hz
        · exact tot _ _ px py e
        · exact h1 z hz
theorem isort_pw {le : α → α → Bool} {P : α → Prop} (tot : ∀ a b, P a → P b → le a b = false → le b a = true) (tr : ∀ a b c, P a → P b → P c → le a b = true → le b c = true → le a c = true) : ∀ {l : List α}, (∀ y ∈ l, P y) → (isort le l).Pairwise (fun a b => le a b = true)
  | [], _ => .nil
  | x :: r, hp => insB_pw tot tr (hp x List.mem_cons_self) (fun y hy => hp y (List.mem_cons_of_mem _ ((isort_perm le r).mem_iff.mp hy))) (isort_pw tot tr fun y hy => hp y (List.mem_cons_of_mem _ hy))
/-- two rows in order of the same things are one -/
theorem sorted_one {le : α → α → Bool} {P : α → Prop} (anti : ∀ a b, P a → P b → le a b = true → le b a = true → a = b) : ∀ {l m : List α}, (∀ y ∈ l, P y) → l.Perm m → l.Pairwise (fun a b => le a b = true) → m.Pairwise (fun a b => le a b = true) → l = m
  | [], m, _, p, _, _ => (List.nil_perm.mp p).symm
  | x :: r, [], _, p, _, _ => absurd p.symm.nil_eq (by simp)
  | x :: r, y :: t, hp, p, .cons h1 h2, .cons h3 h4 => by
    have e : x = y := by
      have hx := p.mem_iff.mp (List.mem_cons_self (a := x) (l := r))
      have hy := p.mem_iff.mpr (List.mem_cons_self (a := y) (l := t))
      rcases List.mem_cons.mp hx with q | hx
      · exact q
      · rcases List.mem_cons.mp hy with q | hy
        · exact q.symm
        · exact anti x y (hp x List.mem_cons_self) (hp y (List.mem_cons_of_mem _ hy)) (h1 y hy) (h3 x hx)
    subst e
    rw [sorted_one anti (fun z hz => hp z (List.mem_cons_of_mem _ hz)) (List.Perm.cons_inv p) h2 h4]
end
def leI (a b : Int) : Bool := decide (a ≤ b)
def sortI (ns : List Int) : List Int := isort leI ns
theorem sortI_pw (ns : List Int) : (sortI ns).Pairwise (· ≤ ·) := (isort_pw (P := fun _ => True) (le := leI) (fun a b _ _ h => by
  have := of_decide_eq_false h
  exact decide_eq_true (by omega)) (fun a b c _ _ _ h1 h2 => by
  have h1 := of_decide_eq_true h1
  have h2 := of_decide_eq_true h2
  exact decide_eq_true (by omega)) fun _ _ => trivial).imp fun h => of_decide_eq_true h
theorem sortI_one {ms ns : List Int} (p : ms.Perm ns) (h : ms.Pairwise (· ≤ ·)) : ms = sortI ns :=
  sorted_one (P := fun _ => True) (le := leI) (fun a b _ _ h1 h2 => by
    have h1 := of_decide_eq_true h1
    have h2 := of_decide_eq_true h2
    omega) (fun _ _ => trivial) (p.trans (isort_perm leI ns).symm) (h.imp fun h => decide_eq_true h) ((sortI_pw ns).imp fun h => decide_eq_true h)
def leS (a b : Str) : Bool := !ltCps b.cps.toList a.cps.toList
def sortS (ks : List Str) : List Str := isort leS ks
theorem leS_iff {a b : Str} : leS a b = true ↔ a.cps.toList ≤ b.cps.toList := by
  unfold leS
  rw [ltCps_eq]
  simp
theorem leS_tot (a b : Str) (h : leS a b = false) : leS b a = true := by
  have h1 : ¬ a.cps.toList ≤ b.cps.toList := fun z => by rw [leS_iff.mpr z] at h; cases h
  exact leS_iff.mpr (List.le_total .. |>.resolve_left h1)
theorem leS_tr (a b c : Str) (h1 : leS a b = true) (h2 : leS b c = true) : leS a c = true := leS_iff.mpr (List.le_trans (leS_iff.mp h1) (leS_iff.mp h2))
theorem leS_anti (a b : Str) (h1 : leS a b = true) (h2 : leS b a = true) : a = b := by
  have e := List.le_antisymm (leS_iff.mp h1) (leS_iff.mp h2)
  obtain ⟨⟨a⟩⟩ := a
  obtain ⟨⟨b⟩⟩ := b
  simpa using e
theorem rising_pw : ∀ {x : Str} {l : List Str}, risingS x l = true → (x :: l).Pairwise (fun a b => leS a b = true)
  | x, [], _ => .cons (fun _ z => by cases z) .nil
  | x, y :: r, h => by
    unfold risingS at h
    have h := Bool.and_eq_true_iff.mp h
    have ih := rising_pw h.2
    refine .cons (fun z hz => ?_) ih
    rcases List.mem_cons.mp hz with rfl | hz
    · exact h.1
    · cases ih with
      | cons i1 i2 => exact leS_tr x y z h.1 (i1 z hz)
theorem sortedS_pw {l : List Str} (h : sortedS l = true) : l.Pairwise (fun a b => leS a b = true) := by
  cases l with
  | nil => exact .nil
  | cons x r => exact rising_pw h
theorem sortS_one {ms ns : List Str} (p : ms.Perm ns) (h : sortedS ms = true) : ms = sortS ns :=
  sorted_one (P := fun _ => True) (fun a b _ _ => leS_anti a b) (fun _ _ => trivial) (p.trans (isort_perm leS ns).symm) (sortedS_pw h) (isort_pw (P := fun _ => True) (fun a b _ _ => leS_tot a b) (fun a b c _ _ _ => leS_tr a b c) fun _ _ => trivial)
/-- tuples of so many ints, by their order -/
def tupI (ns : List Int) : Val := .tup (ns.map Val.int)
def tupsOf : List Val → Option (List (List Int))
  | [] => some []
  | .tup ds :: r => (match intsOf ds, tupsOf r with
    | some ns, some ms => some (ns :: ms)
    | _, _ => none)
  | _ :: _ => none
theorem tupsOf_eq : ∀ {xs : List Val} {ms : List (List Int)}, tupsOf xs = some ms → xs = ms.map tupI
  | [], _, h => by
    cases h
    rfl
  | x :: r, ms, h => by
    unfold tupsOf at h
    split at h
    · next e => cases e
    · next ds r' e =>
      cases e
      split at h
      · next ns ms' h1 h2 =>
        cases h
        rw [List.map_cons, tupsOf_eq h2, intsOf_eq h1]
        rfl
      · cases h
    · cases h
def lexLe : List Int → List Int → Bool
  | [], _ => true
  | _ :: _, [] => false
  | a :: r, b :: t => decide (a < b) || (decide (a = b) && lexLe r t)
def strsOf : List (Key × Val) → Option (List Str)
  | [] => some []
  | (.inr x, _) :: r => (match strsOf r with
    | some ks => some (x :: ks)
    | none => none)
  | _ :: _ => none
theorem strsOf_eq : ∀ {es : List (Key × Val)} {ks : List Str}, strsOf es = some ks → es.map (·.1) = ks.map Sum.inr
  | [], _, h => by
    cases h
    rfl
  | x :: r, ks, h => by
    unfold strsOf at h
    split at h
    · next e => cases e
    · next x r' e =>
      cases e
      split at h
      · next ks' hk =>
        cases h
        rw [List.map_cons, List.map_cons, strsOf_eq hk]
      · cases h
    · cases h
/-- sorted of a list of ints, of a dict with fewer than 64 text keys -/
def fSorted (c : Bool) : FL1 := fun xs st => match xs with
  | [x] => (match intsIn st x with
    | some ns => some (newL c ((sortI ns).map Val.int) st)
    | none => (match dictOf st x with
      | some es => (match strsOf es with
        | some ks => bif Nat.blt ks.length 64 then some (newL c ((sortS ks).map Val.str) st) else none
        | none => none)
      | none => none))
  | _ => none
theorem rl_sorted {K : PySem.W.Frag} (c : Bool) : RLF K (rSortedU K) (fSorted c) := fun fr H ms st xs sxs z st' Q s rx h q => by
  unfold fSorted at h
  split at h
  · obtain ⟨v, rfl, r⟩ := vrs1 rx
    split at h
    · next ns hn =>
      obtain ⟨a, rfl, h1⟩ := intsIn_at s r hn
      obtain ⟨e5, e6⟩ := newl_out h
      rw [← e5, ← e6] at q
      exact .inl ⟨a, ns, rfl, h1, fun ms' p hp ho n => by
        rw [sortI_one hp ho]
        exact q.newl s (vrs_of_ints _) n⟩
    · split at h
      · next es he =>
        split at h
        · next ks hk =>
          obtain ⟨hb, h⟩ := cond_some h
          obtain ⟨e5, e6⟩ := newl_out h
          rw [← e5, ← e6] at q
          obtain ⟨a, ws, rfl, h1, h2⟩ := dct_at s r he
          exact .inr (.inr ⟨a, ws, ks, rfl, .inl h1, by rw [h2.keys]; exact strsOf_eq hk, Nat.le_of_ble_eq_true hb, fun ys p hp ho n => by
            rw [sortS_one hp ho]
            exact q.newl s (vrs_of_strs _) n⟩)
        · cases h
      · cases h
  · cases h
end FL
namespace FL
open PySem PySem.Spec PyProof.Rows L2
/-! ### the law's end -/
/-- what is to be shown of a law's function -/
def LawOk (F : List Val → Store → R Val) : Prop := ∀ ns : List Int, ns.length ≤ 63 → (∀ z ∈ ns, Builtin.Int.intBits z ≤ 1048576) → ∃ st, F [.wr (ns.map Val.int)] [] = .ok (.bl true) st
/-- the law's call at the heap behind the top -/
theorem law_run {P : Program} {w : World} {K : PySem.W.Frag} {mg mb : Str → Option Value} {lv : Nat} {fa a : Addr} {fd : FuncData} {x : Str} {s : Shared} {vs : List Value} {ns : List Int} {FL : List Val → Store → R Val} (KX : K.In s.heap) (hns : s.heap.Ns mainGlobals mg) (hb : s.heap.Ns builtinsNs mb)
    (hbb : ∀ x : Str, x ≠ "__name__" → mb x = bootBuiltins x) (hlim : s.heap.NoLimit) (hg : s.gens = #[]) (ha : s.heap.get? a = some { cls := .type "list", data := .seq vs.toArray }) (hi : IntsAre vs ns) (hl : ns.length ≤ 63) (hbits : ∀ z ∈ ns, Builtin.Int.intBits z ≤ 1048576) (hr : Room lv callerA)
    (F : ∀ base : Heap, K.In base → base.Ns mainGlobals mg → FnF P w K mg base lv fa fd [x] FL) (hok : LawOk FL) (hbind : ∀ (s : Shared) (u : Value), BindsTo s fd ⟨[u], []⟩ [(x, u)]) :
    codeAny (model P w) callerA (.call (.ref fa) ⟨[.ref a], []⟩) (fun r s' => r = .ok (.ret (.bool true)) ∧ OldK s.heap s'.heap ∧ s'.os = s.os ∧ AllBare s'.gens) s := by
  have rv : Vals (ns.map V.int) vs := vals_ints hi
  have lv2 : ns.length = vs.length := by
    have q := rv.length
    rwa [List.length_map] at q
  have small : ns.length ≤ sizeLine := Nat.le_trans hl (by decide)
  -- the script is tracked as it lies, or it is the module's own
  let H : Hp := fun b => if b = a ∧ K.lookup a = none then some (.frz { cls := .type "list", data := .seq vs.toArray } (.lst (ns.map V.int))) else none
  have inv : ∀ {b : Addr} {u : HO}, H b = some u → b = a ∧ K.lookup a = none ∧ u = .frz { cls := .type "list", data := .seq vs.toArray } (.lst (ns.map V.int)) := fun {b u} z => by
    by_cases c : b = a ∧ K.lookup a = none
    · have z' := (if_pos c).symm.trans z
      cases z'
      exact ⟨c.1, c.2, rfl⟩
    · have z' := (if_neg c).symm.trans z
      cases z'
  have free : ∀ {b : Addr}, (b = a → K.lookup a ≠ none) → H b = none := fun {b} z => if_neg fun c => z c.1 c.2
  have ok : HOk P w H s.heap := fun b u z => by
    obtain ⟨rfl, _, rfl⟩ := inv z
    exact ⟨ha, by rw [List.length_map]; exact small, vs, _, rv, ha⟩
  have nsOk : ∀ {b : Addr} {m : Str → Option Value}, s.heap.Ns b m → (hidT s.heap H).Ns b m := fun {b m} n => by
    obtain ⟨o, es, ep, e, d, q⟩ := n
    refine ⟨o, es, ep, hidT_get e (free fun z => ?_), d, q⟩
    rw [z, ha] at e
    cases e
    cases d
  have kOk : K.In (hidT s.heap H) := fun b o e => hidT_get (KX b o e) (free fun z => by
    rw [← z, e]
    simp)
  have md : Mod K mg (hidT s.heap H) := ⟨kOk, nsOk hns, ⟨mb, nsOk hb, hbb⟩, by
    obtain ⟨mc, q1, q2⟩ := hlim
    exact ⟨mc, nsOk q1, q2⟩⟩
  have e0 : Env0 P w K mg (hidT s.heap H) callerA [] s H := ⟨rfl, md, fun _ _ e => of_hidT e, Nat.le_of_eq (hidT_size _ _), trivial, fun b z => (by cases z), ok, .of_eq hg⟩
  have rol : VR K (fun _ => False) H [] (.ref a) (.wr (ns.map Val.int)) := by
    refine .wr (ws := ns.map V.int) ?_ (vrs_of_ints ns)
    cases e : K.lookup a with
    | none => exact .inl ⟨_, if_pos ⟨rfl, e⟩⟩
    | some o =>
      have q := KX a o e
      rw [ha] at q
      cases q
      exact .inr ⟨_, vs.toArray, _, e, rfl, rfl, rfl, by rw [List.size_toArray, ← lv2]; exact small, by simpa using rv⟩
  obtain ⟨st, hst⟩ := hok ns hl hbits
  have sp : spF K FL [.ref a] H (fun v _ => v = .bl true) (fun _ _ _ => False) := by
    refine ⟨fun _ => False, [], [], [.wr (ns.map Val.int)], ⟨rfl, .nil, fun i b c hb => (by simp at hb), fun b hb => (by cases hb), fun b hb => hb.elim⟩, .cons rol .nil, ?_⟩
    rw [hst]
    exact fun fr' H' ms' e' s' v rv => vr_bl rv
  refine codeAny_mono ((F _ kOk (nsOk hns)).go callerA [] s H _ [.ref a] [.ref a] _ _ hr rfl e0 (hbind s (.ref a)) (.cons rfl .nil) sp) fun r s' z => ?_
  match r, z with
  | .ok (.ret u), ⟨v, H', os, bare, un, ok', ru, q⟩ =>
    obtain rfl : v = .bl true := q
    obtain rfl : u = Value.bool true := ru
    refine ⟨rfl, OldK.of_keep fun b o e => ?_, os, bare⟩
    cases c : H b with
    | none => exact un.keep b o e c (by intro y; cases y) (by simp)
    | some u =>
      obtain ⟨rfl, _, rfl⟩ := inv c
      have e2 := (ok' _ _ (un.frzs _ _ _ c)).1
      rw [ha] at e
      cases e
      exact e2
  | .error e, ⟨a, B, H', cls, d, _, _, _, _, _, _, _, z⟩ => exact z.elim
theorem walk_F {l : PySem.W.OpenLaw} {lv : Nat} {q : Program} {loose : List Str} {XP : (Str → Option Value) → Heap → Prop} {YP : World → Heap → Prop} {d : DefRec} {K : Params → PySem.W.Frag} {x : Str} {FL : List Val → Store → R Val}
    (hn : l.most = some 63) (hdf : d.params.defaults = []) (hr : Room lv callerA) (hY : ∀ (w : World) (h : Heap), YP w h → (K w.params).In h)
    (F : ∀ (w : World) (mg : Str → Option Value) (fa : Addr) (h : Heap), (K w.params).In h → h.Ns mainGlobals mg → mg d.name = some (.ref fa) →
      ∃ fd : FuncData, (∀ (s : Shared) (u : Value), BindsTo s fd ⟨[u], []⟩ [(x, u)]) ∧ ∀ base : Heap, (K w.params).In base → base.Ns mainGlobals mg → FnF l.prog w (K w.params) mg base lv fa fd [x] FL) (hok : LawOk FL) :
    PySem.W.WalkO q loose XP YP l.row.toRowW d [] (fun f vs => PySem.call f vs) := by
  refine Att.attach_callB hn hdf fun w s₀ s₁ mg mb fa o pm cd doc a vs ns G Y ho hd hcd hmg hobj hints hlen hbits hg => ?_
  have KX := hY w _ Y
  obtain ⟨fd, hb, hF⟩ := F w mg fa _ KX G.T.g hmg
  exact law_run KX G.T.g G.T.b G.T.builtins G.T.nolimit hg hobj hints hlen hbits hr hF hok hb
/-- a def of which nothing is told -/
theorem FnF.none {P : Program} {w : World} {K : PySem.W.Frag} {mg : Str → Option Value} {base : Heap} {lv : Nat} {f : Addr} {fd : FuncData} {ps : List Str} : FnF P w K mg base lv f fd ps (fun _ _ => .bad) :=
  ⟨fun _ _ h => absurd rfl h, fun A outer s H args us vs Q E _ _ _ _ _ hsp => by
    obtain ⟨fr, ms, st, xs, _, _, g⟩ := hsp
    exact g.elim⟩
theorem no_vrs {K : PySem.W.Frag} : ∀ (fr : Addr → Prop) (H : Hp) (ms : List Addr), VRs K fr H ms [] [] := fun _ _ _ => .nil
section
variable {X : Cx} {W : WX} {lv : Nat} {f : Addr} {fd : FuncData} {ps : List Str} {F : List Val → Store → R Val} {x : Str} {p pos : Pos} {e : Expr} {es : List Expr} {t : FA}
/-- f(..), the defaults behind -/
theorem d_callD {ds : List Val} {dvs : List V} (h0 : FnF X.prog X.w X.K X.mg X.base lv f fd ps F) (hr : Room lv X.A) (hg : X.A.guards = some []) (tk : Takes X W) (hm : X.mg x = some (.ref f)) (hk : PySem.W.keepIn X.K (.ref f) = true) (hb : ∃ dus, Vals dvs dus ∧ Binds X.K fd ps dus) (hs : ∀ fr H ms, VRs X.K fr H ms dvs ds)
    (ha : DA X W (e :: es) t) (hgl : Gl X x := by rfl) (hdb : (x == ("__debug__" : Str)) = false := by decide) (he : starEach (e :: es) X.env = (false, eval e X.env) :: starEach es X.env := by rfl) (hpl : (backTo pos (starEach es X.env)).any (·.1) = false := by rfl) :
    DE X W (.Call (.Name x p) (e :: es) [] pos) (eCall F ds t) := by
  obtain ⟨dus, h1, h2⟩ := hb
  exact d_call h0 hr hg tk hm hk h2 h1 hs ha hgl hdb he hpl
end
section
variable {K : PySem.W.Frag} {x qual : Str} {params : Arguments} {body : List Stmt} {scope : Scope} {dvs : List V} {kws : List (Str × V)} {f : Addr} {fd : FuncData} {ps : List Str}
theorem FunD.of {st : Stmt} (F : Fun K x qual st f fd) : FunD K x qual (defArgs st) (defBody st) (defScope st) [] [] f fd := by
  obtain ⟨oc, od, kV, doc, pm, an, cdv, ct, osl, rfl, lk, hcd⟩ := F.ex
  exact ⟨⟨oc, od, .none, kV, doc, pm, an, cdv, ct, osl, rfl, lk, hcd, .inl ⟨rfl, rfl⟩, .inl rfl⟩, F.kp⟩
/-- all keyword-only parameters are given (or there are none) -/
theorem mb_all (F : FunD K x qual params body scope [] kws f fd) (n : Nat) (ks : List Str) (pl : List Nat)
    (h : ∀ (kV doc pm : Value) (an : Option Addr) (cdv ct : Value) (us ws : List Value), us.length = n → ws.length = ks.length → bindArgs (PySem.W.fnOf x qual params body scope .none kV doc pm an cdv ct) ⟨us, ks.zip ws⟩ = pure (ps.zip (byPl pl (us ++ ws)))) : MBinds K fd ps n [] ks pl := by
  obtain ⟨oc, od, dV, kV, doc, pm, an, cdv, ct, osl, rfl, lk, hcd, hD, hK⟩ := F.ex
  rcases hD with ⟨_, rfl⟩ | ⟨e, _⟩
  · exact ⟨[], .nil, fun s us ws X l1 l2 => .of_eq (h kV doc pm an cdv ct us ws l1 l2)⟩
  · exact absurd rfl e
/-- some keyword-only parameters lack -/
theorem mb_lack (F : FunD K x qual params body scope [] kws f fd) (n : Nat) (ks : List Str) (ms : List (Str × V)) (pl : List Nat) (hk : kws ≠ []) (hms : ∀ q ∈ ms, q ∈ kws)
    (h : ∀ (D : Addr) (doc pm : Value) (an : Option Addr) (cdv ct : Value) (us mv ws : List Value), us.length = n → mv.length = ms.length → ws.length = ks.length →
      KwChain D ((ms.map (·.1)).zip mv) (bindArgs (PySem.W.fnOf x qual params body scope .none (.ref D) doc pm an cdv ct) ⟨us, ks.zip ws⟩) (ps.zip (byPl pl (us ++ (mv ++ ws))))) : MBinds K fd ps n (ms.map (·.2)) ks pl := by
  obtain ⟨oc, od, dV, kV, doc, pm, an, cdv, ct, osl, rfl, lk, hcd, hD, hK⟩ := F.ex
  rcases hD with ⟨_, rfl⟩ | ⟨e, _⟩
  · rcases hK with e | ⟨D, rfl, hq⟩
    · exact absurd e hk
    · obtain ⟨mv, hl, rk, hks⟩ := kwd_vals (ms := ms) fun q hm => hq q (hms q hm)
      exact ⟨mv, rk, fun s us ws X l1 l2 => BindsTo.of_looks fun M => KwChain.looks X hks (h D doc pm an cdv ct us mv ws l1 hl l2)⟩
  · exact absurd rfl e
/-- a def's facts from what the head tells -/
theorem fd_mk {oc : Value} {od an : Option Addr} {osl : Array (Option Value)} {dV kV doc pm cdv ct : Value} (l : K.lookup f = some ⟨oc, od, .func (PySem.W.fnOf x qual params body scope dV kV doc pm an cdv ct), osl⟩)
    (c : PySem.W.codeIn K cdv qual = true) (k : PySem.W.keepIn K (.ref f) = true) (hd : DflV K dV dvs) (hk : KwdV K kV kws) : FunD K x qual params body scope dvs kws f (PySem.W.fnOf x qual params body scope dV kV doc pm an cdv ct) := ⟨⟨oc, od, dV, kV, doc, pm, an, cdv, ct, osl, rfl, l, c, hd, hk⟩, k⟩
end
/-! ### dicts: displays, copies, get -/
def eDict0 : FE := fun _ st => .ok (.ref st.length) (st ++ [.dic []])
theorem getElem?_end {α : Type} {l : List α} {x : α} {n : Nat} (h : n = l.length) : (l ++ [x])[n]? = some x := by
  subst h
  rw [List.getElem?_append_right (Nat.le_refl _), Nat.sub_self]
  rfl
theorem d_dict0 {X : Cx} {W : WX} {pos : Pos} : DE X W (.Dict [] [] pos) eDict0 := pe_imp pe_dnewK fun σ H Q ⟨fr, ms, ρ, st, w, g⟩ => fun p n =>
  (QV.of g) _ _ (ms ++ [p]) _ (Ext.cell n) (w.sr.cons n ⟨[], upd_same, .nil⟩) (.ref (getElem?_end w.sr.len.symm))
def newD (c : Bool) (es : List (Key × Val)) (st : Store) : Val × Store := match c with
  | true => (.ref st.length, st ++ [.dic es])
  | false => (.rd (es.map (·.1)) (es.map (·.2)), st)
def mergeS (es more : List (Key × Val)) : List (Key × Val) := more.foldl (fun acc e => putS acc e.1 e.2) es
theorem VRk.merge {K : PySem.W.Frag} {fr : Addr → Prop} {H : Hp} {ms : List Addr} {more : List (Key × V)} {xs : List (Key × Val)} (r : VRk K fr H ms more xs) : ∀ {ws : List (Key × V)} {es : List (Key × Val)}, VRk K fr H ms ws es → VRk K fr H ms (mergeK ws more) (mergeS es xs) := by
  induction r with
  | nil => intro ws es h; exact h
  | cons a b ih =>
    intro ws es h
    exact ih (h.put _ a)
def ePairs : List (FE × FE) → Env → Store → R (List (Key × Val))
  | [], _, st => .ok [] st
  | (tk, tv) :: r, ρ, st => (tk ρ st).bind fun x st1 => (tv ρ st1).bind fun y st2 => match keyOf x with
    | some key => (ePairs r ρ st2).bind fun es st3 => .ok ((key, y) :: es) st3
    | none => .bad
def eDisp (c : Bool) (ps : List (FE × FE)) : FE := fun ρ st => (ePairs ps ρ st).bind fun es st1 => bif Nat.ble es.length 15 then .ok (newD c (mergeS [] es) st1).1 (newD c (mergeS [] es) st1).2 else .bad
theorem le_pairs {K : PySem.W.Frag} {W : WX} {σ : L2.St} : ∀ {ps : List (FE × FE)} {H : Hp} {Q : List (V × V) → Hp → Prop} {fr : Addr → Prop} {ms : List Addr} {ρ : Env} {st : Store}, Wd K fr H ms σ ρ st →
    G K W σ fr H ms (ePairs ps ρ st) (fun es fr' H' ms' st' => Ext ms.length fr H ms fr' H' ms' ∧ SR K fr' H' ms' st' ∧ ∀ kvs, VRk K fr' H' ms' kvs es → Q (kvs.map fun kv => (kV kv.1, kv.2)) H') → tPairs (ps.map fun p => (LE K W p.1, LE K W p.2)) σ H Q
  | [], H, Q, fr, ms, ρ, st, w, g => (g.now w.sr).2.2 [] .nil
  | (tk, tv) :: r, H, Q, fr, ms, ρ, st, w, g => by
    refine ⟨fr, ms, ρ, st, w, g.bind.mono fun x st1 fr1 H1 ms1 _ _ ⟨e1, s1, g1⟩ v rv => ⟨fr1, ms1, ρ, st1, w.on e1 s1, g1.bind.mono fun y st2 fr2 H2 ms2 _ _ ⟨e2, s2, g2⟩ u ru => ?_⟩⟩
    cases hk : keyOf x with
    | none =>
      rw [hk] at g2
      exact g2.elim
    | some key =>
      rw [hk] at g2
      have hv := key_at rv hk
      subst hv
      refine le_pairs ((w.on e1 s1).on e2 s2) (g2.bind.mono fun es st3 fr3 H3 ms3 _ _ ⟨e3, s3, g3⟩ => ⟨e3, s3, fun kvs rk => ?_⟩)
      exact (g3.now s3).2.2 ((key, u) :: kvs) (.cons (ru.ex s2 e3) rk)
structure DPP (X : Cx) (W : WX) (pos : Pos) (keys : List (Option Expr)) (values : List Expr) (ps : List (FE × FE)) : Prop where
  ok : PPs X pos keys values (ps.map fun p => (LE X.K W p.1, LE X.K W p.2))
theorem dp_nil {X : Cx} {W : WX} {pos : Pos} : DPP X W pos [] [] [] := ⟨pps_nil⟩
theorem dp_cons {X : Cx} {W : WX} {pos : Pos} {k v : Expr} {ks : List (Option Expr)} {vs : List Expr} {tk tv : FE} {ps : List (FE × FE)} (hk : DE X W k tk) (hv : DE X W v tv) (hr : DPP X W pos ks vs ps) : DPP X W pos (some k :: ks) (v :: vs) ((tk, tv) :: ps) := ⟨pps_cons hk hv hr.ok⟩
/-- an object that is made ahead -/
theorem Ext.late {fr fr2 : Addr → Prop} {H H2 : Hp} {ms ms2 : List Addr} {p : Addr} {o0 : HO} (e : Ext ms.length fr (L2.upd H p o0) ms fr2 H2 ms2) (n : H p = none) : Ext ms.length fr H ms fr2 H2 ms2 := by
  have ne : ∀ {a : Addr} {u : HO}, H a = some u → a ≠ p := fun h z => by rw [z, n] at h; cases h
  have up : ∀ {a : Addr}, a ≠ p → L2.upd H p o0 a = H a := fun h => upd_ne h
  have nn : ∀ {a : Addr}, L2.upd H p o0 a = none → H a = none := fun {a} q => by
    by_cases z : a = p
    · rw [z, upd_same] at q
      cases q
    · rw [up z] at q
      exact q
  refine ⟨e.pre, fun a u h s t => e.keep a u (by rw [up (ne h)]; exact h) s t, fun a h => e.there a (upd_there h), fun a h => ?_, e.frk, fun a h => ?_⟩
  · rcases e.tk a h with q | q
    · exact .inl q
    · exact .inr (nn q)
  · rcases e.frn a h with q | q | q
    · exact .inl q
    · exact .inr (.inl (nn q))
    · exact .inr (.inr q)
theorem QD.late {K : PySem.W.Frag} {fr fr1 : Addr → Prop} {H H1 : Hp} {ms ms1 : List Addr} {st : Store} {D : Addr} {c : Bool} {es : List (Key × Val)} {Q : VK} {ws : List (Key × V)} (q : QV K fr1 H1 ms1 (newD c es st).1 (newD c es st).2 Q) (e : Ext ms1.length fr1 H1 ms1 fr H ms) (n : H1 D = none) (s : SR K fr H ms st) (r : VRk K fr H ms ws es)
    (hD : H D = some (.dK ws)) (np : D ∉ ms) (nf : ¬ fr D) : Q (.ref D) H := by
  cases c with
  | true =>
    have ea : Ext ms1.length fr1 H1 ms1 fr H (ms ++ [D]) := ⟨by rw [List.take_append_of_le_length e.len]; exact e.pre, e.keep, e.there, fun a ha => by
      rcases List.mem_append.mp ha with ha | ha
      · exact e.tk a ha
      · rw [List.mem_singleton.mp ha]
        exact .inr n, e.frk, e.frn⟩
    exact q _ _ (ms ++ [D]) _ ea (s.adopt nf np ⟨ws, hD, r.more⟩) (.ref (getElem?_end s.len.symm))
  | false =>
    refine q _ _ ms _ ⟨e.pre, e.keep, e.there, e.tk, fun a h => .inl (e.frk a h), fun a h => h.elim (e.frn a) fun z => .inr (.inl (z ▸ n))⟩ (s.frz hD np) (.rd (ws := ws.map (·.2)) ?_ ?_ (.inr rfl) (VRs.frz r.vals))
    · rw [← r.keys, zip_fst_snd]
      exact hD
    · rw [List.length_map, List.length_map, r.length]
theorem d_disp (c : Bool) {X : Cx} {W : WX} {pos : Pos} {keys : List (Option Expr)} {values : List Expr} {ps : List (FE × FE)} (h : DPP X W pos keys values ps) (hall : keys.all (·.isSome) = true := by rfl) (hl : keys.length = values.length := by rfl) (h0 : keys ≠ [] := by exact fun z => by cases z) (h15 : keys.length ≤ 15 := by decide) :
    DE X W (.Dict keys values pos) (eDisp c ps) := pe_imp (pe_disp h.ok hall hl h0 h15) fun σ H Q ⟨fr, ms, ρ, st, w, g⟩ => fun p n => by
  have np : p ∉ ms := w.sr.no n
  have nf : ¬ fr p := fun z => w.sr.low p z n
  refine le_pairs (ρ := ρ) (st := st) (w.on (Ext.new _ n) (w.sr.new n)) ?_
  unfold eDisp at g
  cases hp : ePairs ps ρ st with
  | bad =>
    rw [hp] at g
    exact g.elim
  | exc x st1 =>
    rw [hp] at g
    exact (show G X.K W σ fr H ms (.exc x st1) (PV X.K Q) from g).at (Ext.new _ n)
  | ok es st1 =>
    rw [hp] at g
    obtain ⟨hb, g2⟩ := (show G X.K W σ fr H ms (bif Nat.ble es.length 15 then R.ok (newD c (mergeS [] es) st1).1 (newD c (mergeS [] es) st1).2 else .bad) (PV X.K Q) from g).cond
    intro fr1 H1 ms1 e1 s1
    refine ⟨e1, s1, fun kvs rk => ?_⟩
    have hp0 : L2.upd H p (.dK []) p = some (.dK []) := upd_same
    obtain ⟨hp, np1, nf1⟩ := e1.aside (w.sr.new n) hp0 trivial nf np
    have rm : VRk X.K fr1 H1 ms1 (mergeK [] kvs) (mergeS [] es) := rk.merge .nil
    have up : L2.upd H1 p (.dK (mergeK [] kvs)) p = some (.dK (mergeK [] kvs)) := upd_same
    exact ⟨hp, kvs, rfl, by rw [rk.length]; exact Nat.le_of_ble_eq_true hb, QD.late (QV.of g2) ((e1.late n).beside n) n (SR.off' hp trivial nf1 np1 s1) (VRk.off' hp trivial nf1 rm) up np1 nf1⟩
/-- dict(d) -/
def fDict (c : Bool) : FL1 := fun xs st => match xs with
  | [x] => (match dictOf st x with
    | some es => some (newD c es st)
    | none => none)
  | _ => none
theorem QV.newd {K : PySem.W.Frag} {fr : Addr → Prop} {H : Hp} {ms : List Addr} {st : Store} {c : Bool} {es : List (Key × Val)} {Q : VK} {ws : List (Key × V)} (q : QV K fr H ms (newD c es st).1 (newD c es st).2 Q) (s : SR K fr H ms st) (r : VRk K fr H ms ws es) {p : Addr} (n : H p = none) : Q (.ref p) (upd H p (.dK ws)) :=
  QD.late q (Ext.new (o := .dK ws) _ n) n (s.new n) (r.ex s (Ext.new _ n)) upd_same (s.no n) fun z => s.low p z n
theorem rl_dict {K : PySem.W.Frag} (c : Bool) : RLF K (fun xs H Q => ∃ (a : Addr) (kvs : List (Key × V)), xs = [.ref a] ∧ Rd H a (.dK kvs) ∧ ∀ p, H p = none → Q (.ref p) (upd H p (.dK kvs))) (fDict c) := fun fr H ms st xs sxs z st' Q s rx h q => by
  unfold fDict at h
  split at h
  · obtain ⟨v, rfl, r⟩ := vrs1 rx
    split at h
    · next es he =>
      have e5 : (newD c es st).1 = z := congrArg Prod.fst (Option.some.inj h)
      have e6 : (newD c es st).2 = st' := congrArg Prod.snd (Option.some.inj h)
      rw [← e5, ← e6] at q
      obtain ⟨a, ws, rfl, h1, h2⟩ := dct_at s r he
      exact ⟨a, ws, rfl, .inl h1, fun p n => q.newd s h2 n⟩
    · cases h
  · cases h
/-- d.get(k, z) -/
def eGet2 (to ti tz : FE) : FE := fun ρ st => (to ρ st).bind fun x st1 => match dictOf st1 x with
  | some _ => (ti ρ st1).bind fun y st2 => (tz ρ st2).bind fun z st3 => (match FL.dGet st3 x y with
    | some (some v) => .ok v st3
    | some none => .ok z st3
    | none => .bad)
  | none => .bad
theorem d_get2 {X : Cx} {W : WX} {o e f : Expr} {to ti tz : FE} {apos cpos : Pos} (hu : X.A.units + 1 < cLine) (ho : DE X W o to) (hi : DE X W e ti) (hz : DE X W f tz) (m : M2 X o "get" apos e f cpos := by exact ⟨rfl, rfl, rfl, rfl⟩) :
    DE X W (.Call (.Attribute o "get" apos) [e, f] [] cpos) (eGet2 to ti tz) := pe_imp (pe_dget2 hu ho hi hz m) fun σ H Q ⟨fr, ms, ρ, st, w, g⟩ => by
  refine ⟨fr, ms, ρ, st, w, g.bind.mono fun x st1 fr1 H1 ms1 _ _ ⟨e1, s1, g1⟩ v rv => ?_⟩
  cases hd : dictOf st1 x with
  | none =>
    rw [hd] at g1
    exact g1.elim
  | some es =>
    rw [hd] at g1
    obtain ⟨a, ws, rfl, h1, h2⟩ := dct_at s1 rv hd
    have w1 := w.on e1 s1
    refine ⟨a, rfl, .inl ⟨ws, .inl h1⟩, fr1, ms1, ρ, st1, w1, g1.bind.mono fun y st2 fr2 H2 ms2 _ _ ⟨e2, s2, g2⟩ u ru => ⟨fr2, ms2, ρ, st2, w1.on e2 s2, g2.bind.mono fun z st3 fr3 H3 ms3 _ _ ⟨e3, s3, g3⟩ t rt => ?_⟩⟩
    have rx := rv.ex s1 (e2.then e3)
    have ry := ru.ex s2 e3
    cases hv : FL.dGet st3 x y with
    | none =>
      rw [hv] at g3
      exact g3.elim
    | some oo =>
      rw [hv] at g3
      obtain ⟨b, o, eb, gg, g1, g2'⟩ := dget_at s3 rx ry hv
      cases eb
      cases oo with
      | some v =>
        obtain ⟨r, rfl, rr⟩ := g1 v rfl
        exact ⟨_, gg, g3.now s3 _ rr⟩
      | none =>
        rw [g2' rfl] at gg
        exact ⟨_, gg, g3.now s3 _ rt⟩
end FL
/-! own exception classes over any built-in base: made, raised, caught, held as values -/
namespace FL
open PySem PySem.Spec PyProof.Rows L2
/-! ### the base -/
structure BaseX (B newId initId : String) (tail : List Value) : Prop where
  F : ExcBaseFacts B newId initId tail
  typ : typeOf (.type B) = pure (.type "type")
  passes : ∀ self, PySem.refuseLoop self "__setattr__" tail = pure ()
  obj : tail.contains (.type "object") = true
  stub : Manifest.isStub B = false
  hand : PySem.W.handedIn (.builtin initId) = true
/-- what the written part says of an own class at C over the base -/
structure OexB (K : PySem.W.Frag) (C : Addr) (newId : String) (tail : List Value) : Prop where
  cls : ∃ nm q N bs sn sub ab col dd k0 k1 k2 k3 k5, K.lookup C = some (excClassObj nm q C N bs tail true sn sub ab col dd k0 k1 k2 k3 k5 newId)
  sa : PySem.W.findIn K (.ref C) "__setattr__" = some (some (.builtin "object.__setattr__"))
  exC : PySem.W.subIn K (.ref C) (.type "BaseException") = some true
  tyC : PySem.W.typeIn K (.ref C) = some (.type "type")
  kC : PySem.W.keepIn K (.ref C) = true
end FL
namespace PySem
namespace HandSPX
open Builtin Builtin.ObjectAttr
section
variable {prog : Program} {w : World} {A : Around} {E : Value → Shared → Prop} {R : Result → Shared → Prop} {hp : Heap} {g : Array GenState} {d : Drawn} {t : Nat} {os : OsState}
theorem exc_osaB {K : W.Frag} {name : Str} {tk : Tok} {v : Value} {x C : Addr} {fv : Array Value} {cd : ClassData} {tail : List Value} (X : K.In hp) (hx : hp.get? x = some { cls := .ref C, data := .fields fv }) (hcd : W.clsIn K C = some cd) (hm : cd.mro = .ref C :: tail)
    (hpa : ∀ self, refuseLoop self "__setattr__" tail = pure ()) (hto : tail.contains (.type "object") = true) (hh : cd.hasDict = true) (ha : W.findIn K (.ref C) name = some none)
    (hq : ∀ h' tk' dx, (∀ b o, b ≠ x → hp.get? b = some o → h'.get? b = some o) → hp.objs.size ≤ dx → dx ≠ x → h'.get? x = some { cls := .ref C, dict := some dx, data := .fields fv } →
      h'.Ns1 dx (fun y => if y = name then some v else none) → R (.ok (.ret .none)) ⟨h', g, d, tk', os⟩) :
    codeAny (model prog w) A (.call (.builtin "object.__setattr__") ⟨[.ref x, .str name tk, v], []⟩) R ⟨hp, g, d, t, os⟩ := by
  have I : W.InstAt hp x { cls := .ref C, data := .fields fv } C none := ⟨hx, rfl, rfl, trivial⟩
  have SF := F.store_object
  have ne : cd.mro.isEmpty = false := by rw [hm]; rfl
  have hob : cd.mro.contains (.type "object") = true := by rw [hm, List.contains_cons, hto, Bool.or_true]
  have hxs : x ≠ hp.objs.size := Nat.ne_of_lt (Heap.lt_size hx)
  have sub : W.Looks (model prog w) hp (isInstance (.ref x) (.type "object")) true := I.type.andThen (W.looks_mroIn X (by unfold W.mroIn; rw [hcd, Option.bind_some, if_neg (by rw [ne]; decide), hob]))
  refine codeAny_call_builtin SF.slot.plain SF.entry (@W.check_slot (model prog w) _ _ ⟨hp, g, d, t, os⟩ "object.__setattr__" "object" "__setattr__" (.ref x) [.str name tk, v] [] _ SF.kind SF.split sub (SF.args (.ref x) (.str name tk) v) ?_)
  have hmr : W.Looks (model prog w) hp (mroOf (.ref C)) cd.mro := (W.looks_clsIn X hcd).andThen .now
  have L3 : W.Looks (model prog w) hp (storeTaker? none) none := .now
  have hcls : W.Looks (model prog w) hp (classData C) cd := W.looks_clsIn X hcd
  rw [W.osa_eq, refuse_eq]
  refine wpAny_bind (wpAny_bind (I.type.at (wpAny_bind (hmr.at ?_))))
  rw [hm, refuseLoop_ref, hpa]
  refine wpAny_pure (wpAny_bind (I.type.at (wpAny_bind ((W.looks_findIn X ha).at (wpAny_bind (L3.at ?_))))))
  show wpAny _ _ (storeInOwnDict (.ref x) (.ref C) (.str name tk) name v false) _ _ _
  obtain ⟨nm, bs, mro, ns, qn, hd, sn, sb, ab, col, del⟩ := cd
  dsimp only at hh
  subst hh
  unfold storeInOwnDict ownDictForStores
  repeat (first | with_reducible refine store_in_new ?_ ?_ | with_reducible refine wpAny_loadPart_at hx ?_ | with_reducible refine hcls.at ?_ | wp_step)
  · exact ⟨_, #[], _, (Heap.get?_update_ne _ _ _ _ hxs.symm).trans (Heap.get?_push_at rfl rfl), rfl, fun e he => absurd he (by simp), fun _ => rfl⟩
  · intro h' tk' hn' hs
    have hx₁ : (hp.push { cls := .type "dict", data := .dict #[] }).get? x = some { cls := .ref C, data := .fields fv } := Heap.get?_push_of_some _ hx
    refine hq h' tk' hp.objs.size (fun b o hb ho => ?_) (Nat.le_refl _) hxs.symm ?_ hn'
    · exact (hs.2 b (Nat.ne_of_lt (Heap.lt_size ho))).trans ((Heap.get?_update_ne _ _ _ _ hb).trans (Heap.get?_push_of_some _ ho))
    · exact (hs.2 x hxs).trans (Heap.get?_update_self _ hx₁ rfl)
end
end HandSPX
end PySem
namespace FL
open PySem PySem.Spec PyProof.Rows L2
section
variable {X : Cx} {pins : List (Addr × Obj)} {σ : L2.St} {H : Hp} {s : Shared} {a C dx : Addr} {f : Str} {y : V} {u : Value} {fs : List (Str × V)} {Q : Unit → Shared → Prop} {E : Value → Shared → Prop} {A : Around} {B newId initId : String} {tail : List Value}
/-- self.f = y, the first one -/
theorem ost_newB (FB : BaseX B newId initId tail) (T : OexB X.K C newId tail) (I : Inv X pins σ H s) (e : H a = some (exo a C none)) (hno : PySem.W.findIn X.K (.ref C) f = some none) (ry : RelV y u)
    (h : ∀ dx s', H dx = none → dx ≠ a → Inv X pins σ (upd (upd H dx (exd dx [(f, y)])) a (exo a C (some dx))) s' → Q () s') : wpAny (model X.prog X.w) A (setAttr (.ref a) f u) Q E s := by
  obtain ⟨nm, q, N, bs, sn, sub, ab, col, dd, k0, k1, k2, k3, k5, hC⟩ := T.cls
  have hcl : PySem.W.clsIn X.K C = some { name := nm, bases := bs, mro := .ref C :: tail, ns := N, qualname := q, hasDict := true, slotNames := sn, subclasses := sub, abstract := ab, collection := col, hasDel := false } := by unfold PySem.W.clsIn; rw [hC] <;> rfl
  obtain ⟨t1, ho⟩ := exo_at I.hok e
  obtain ⟨hp, g, d, t, os⟩ := s
  refine PySem.W.set_plain I.kIn (ox := { cls := .ref C, dict := none, data := .fields #[.ref t1, .none, .none, .none, .bool false, .none] }) (od := none) ⟨ho, rfl, rfl, trivial⟩ T.sa ?_
  refine PySem.HandSPX.exc_osaB I.kIn ho hcl rfl FB.passes FB.obj rfl hno (fun h' tk' dx k dn dne hx hn => ?_)
  have hnd : H dx = none := I.hok.fresh dn
  have nd : ∀ {b : Addr} {o : Obj}, hp.get? b = some o → b ≠ dx := fun {b o} q => Nat.ne_of_lt (Nat.lt_of_lt_of_le (Heap.lt_size q) dn)
  have na : ∀ {b : Addr}, H b = none → b ≠ a := fun {b} n z => by
    rw [z, e] at n
    cases n
  have Un1 : Un X.fs [] H (upd (upd H dx (exd dx [(f, y)])) a (exo a C (some dx))) hp h' := {
    keep := fun b o q n _ _ => k b o (na n) q
    slot := fun b o q n _ _ => ⟨o.slots, k b o (na n) q⟩
    free := fun b o q n _ => by rw [upd_ne (na n), upd_ne (nd q)]; exact n
    there := fun b o q _ => by
      by_cases hb : b = a
      · exact ⟨_, by rw [hb]; exact hx⟩
      · exact ⟨o, k b o hb q⟩
    tups := fun b xs q => by rw [upd_ne (at_ne e q exo_tup), upd_ne (ne_of_none q hnd)]; exact q
    frzs := fun b o v q => by rw [upd_ne (at_ne e q exo_frz), upd_ne (ne_of_none q hnd)]; exact q
    tbls := fun b ps q => ⟨#[], by rw [upd_ne (at_ne e q exo_tbl), upd_ne (ne_of_none q hnd), q]; simp⟩ }
  refine h dx _ hnd dne (I.un (t' := tk') Un1 fun b o q => ?_)
  by_cases hb : b = a
  · subst hb
    rw [upd_same] at q
    cases q
    exact exo_ok hx
  · rw [upd_ne hb] at q
    by_cases hd : b = dx
    · subst hd
      rw [upd_same] at q
      cases q
      exact exd_ok hn (relO_put (fs := []) ry fun g => True.intro)
    · rw [upd_ne hd] at q
      exact (I.hok b o q).stay (fun c v hc z => k c v (by
          rcases hc with hc | hc
          · rw [hc]
            exact hb
          · exact at_ne e hc exo_own) z)
        (fun c hc => by rw [upd_ne (at_ne e hc exo_own), upd_ne (ne_of_none hc hnd)]; exact hc) (fun c xs hc => by rw [upd_ne (at_ne e hc exo_tup), upd_ne (ne_of_none hc hnd)]; exact hc)
/-- B.__init__(self, ..): nothing of it is told -/
theorem oinit_okB {us : List Value} {Q : Value → Shared → Prop} (FB : BaseX B newId initId tail) (T : OexB X.K C newId tail) (I : Inv X pins σ H s) (e : H a = some (exo a C none)) (hl : us.length ≤ sizeLine) (h : ∀ s', Inv X pins σ H s' → Q .none s') :
    wpAny (model X.prog X.w) A (call (.builtin initId) (.ref a :: us)) Q E s := by
  obtain ⟨nm, q, N, bs, sn, sub, ab, col, dd, k0, k1, k2, k3, k5, hC⟩ := T.cls
  obtain ⟨t1, ho⟩ := exo_at I.hok e
  obtain ⟨hp, g, d, t, os⟩ := s
  refine wpAny_call (PySem.HandSPX.init_base FB.F (fun Y => rfl) (I.kIn _ _ hC) ho hl fun h' t2 k hx => ?_)
  have J := I.write (t' := t) (x := a) (e := a) (o := exo a C none) (by rw [e]; exact True.intro) (.inl rfl) k ⟨_, hx⟩ (exo_ok hx)
  have eu : upd H a (exo a C none) = H := by
    funext b
    by_cases hb : b = a
    · rw [hb, upd_same, e]
    · rw [upd_ne hb]
  rw [eu] at J
  exact h _ J
end
/-! ### readings and rules -/
/-- B.__init__(self, ..) -/
def tBI (K : PySem.W.Frag) (newId : String) (tail : List Value) (ta : TA) : TE := fun σ H Q => ta σ H fun vs H1 => ∃ (a C : Addr) (ws : List V), vs = .ref a :: ws ∧ ws.length ≤ 1000 ∧ OexB K C newId tail ∧ H1 a = some (exo a C none) ∧ Q .non H1
/-- self.f = e -/
def tOstB (K : PySem.W.Frag) (newId : String) (tail : List Value) (f : Str) (to te : TE) : TS := fun D σ H => te σ H fun y H1 => to σ H1 fun x H2 => ∃ a C : Addr, x = .ref a ∧ OexB K C newId tail ∧ PySem.W.findIn K (.ref C) f = some none ∧
  H2 a = some (exo a C none) ∧ ∀ dx, H2 dx = none → dx ≠ a → D.nx σ (upd (upd H2 dx (exd dx [(f, y)])) a (exo a C (some dx)))
section
variable {X : Cx} {o e : Expr} {es : List Expr} {to te : TE} {ta : TA} {f : Str} {p p' p1 p2 pos : Pos} {B newId initId : String} {tail : List Value}
theorem pe_binit {Bn : Str} {pl : Sem Bool} (FB : BaseX B newId initId tail) (hg : Gl X Bn) (hm : X.mg Bn = none) (hB : bootBuiltins Bn = some (.type B)) (vV : PySem.W.findCls X.K (.type B) (.type "type") "__init__" = some (.val (.builtin initId))) (ha : PA X (e :: es) ta)
    (hnn : Bn ≠ "__name__") (hdb : (Bn == ("__debug__" : Str)) = false) (hc : eval (.Call (.Attribute (.Name Bn p1) "__init__" p2) (e :: es) [] pos) X.env = (do
      let ov ← eval (.Name Bn p1) X.env
      standAt p2.atName
      let (f, first) ← holding [ov] (getMethod ov "__init__" pl)
      callWith pos f first (backTo pos (starEach (e :: es) X.env)) (backToKw pos (keywordEach [] X.env))) := by rfl)
    (he : starEach (e :: es) X.env = (false, eval e X.env) :: starEach es X.env := by rfl) (hpl : (backTo pos (starEach es X.env)).any (·.1) = false := by rfl) :
    PE X (.Call (.Attribute (.Name Bn p1) "__init__" p2) (e :: es) [] pos) (tBI X.K newId tail ta) := by
  refine ⟨fun pins s σ H Q I h => ?_⟩
  refine PySem.W.methodCall_KW (ld_blt I hg hm hB ?_ hnn hdb) hc
  obtain ⟨m, fr⟩ := I.fr
  refine PySem.W.method_type fr I.ok.mod.kin FB.typ FB.stub vV FB.hand ?_
  show wpAny _ _ (callWith pos (Value.builtin initId) [] (backTo pos (starEach (e :: es) X.env)) []) _ _ _
  refine PyProof.Rows.callWith_method1 (thn (ha.run pos pins _ σ H _ (I.tok _) h) fun us s1 ⟨vs, H1, I1, r1, a, C, ws, ev, hl, T, ea, q⟩ => ?_) he hpl
  subst ev
  cases r1 with
  | @cons _ u0 _ ur ra rw' =>
    obtain rfl : u0 = Value.ref a := ra
    have hlen : ur.length ≤ sizeLine := by
      rw [← Paired.length rw', sizeLine_eq]
      omega
    exact oinit_okB FB T I1 ea hlen fun s' J => ⟨.non, H1, J, rfl, q⟩
theorem ps_ostB (FB : BaseX B newId initId tail) (ho : PE X o to) (he : PE X e te) (hs : swapsWith e (some (.Attribute o f p')) pos.line X.env = pure false := by rfl) : PS X (.Assign [.Attribute o f p'] e pos) (tOstB X.K newId tail f to te) := by
  refine ⟨fun pins s σ H D I h => ?_⟩
  refine plainObj_wpAny_Assign_Attribute (thn (he.run pins s σ H _ I h) fun v s1 ⟨y, H1, I1, r1, q1⟩ => thn (ho.run pins s1 σ H1 _ I1 q1) fun u s2 ⟨x, H2, I2, r2, a, C, ex, T, hno, ea, q⟩ => ?_) hs
  subst ex
  obtain rfl : u = Value.ref a := r2
  exact ost_newB FB T I2 ea hno r1 fun dx s' n ne J => ⟨σ, _, J, q dx n ne⟩
/-- C(e, ..), C's own __init__ keeping sp -/
theorem pmk_oexB {CX : CXT} {x : Str} {C fI : Addr} {k : Nat} {fd : FuncData} {ps : List Str} {sp : Sp} {ds : List Value} {dvs : List V} (FB : BaseX B newId initId tail) (T : OexB X.K C newId tail) (iC : PySem.W.findIn X.K (.ref C) "__init__" = some (some (.ref fI))) (tI : PySem.W.typeIn X.K (.ref fI) = some (.type "function"))
    (F1 : FnOk X.prog X.w X.K X.mg X.base CX k fI fd ps sp) (hr : Room (k + 1) X.A) (hb : Binds X.K fd ps ds) (hd : Vals dvs ds) (hx : Passes CX X (fun _ _ _ => False)) (hg : Gl X x) (hm : X.mg x = some (.ref C)) (ha : PA X (e :: es) ta)
    (hdb : (x == ("__debug__" : Str)) = false := by decide) (he : starEach (e :: es) X.env = (false, eval e X.env) :: starEach es X.env := by rfl) (hpl : (backTo pos (starEach es X.env)).any (·.1) = false := by rfl) :
    PMk X (.Call (.Name x p) (e :: es) [] pos) (tMkO C sp dvs ta) := by
  intro pins s σ H Q I h
  obtain ⟨nm, q, N, bs, sn, sub, ab, col, dd, k0, k1, k2, k3, k5, hC⟩ := T.cls
  refine wpAny_Call_Name_kw (ld_glob I hg hm ?_ hdb)
  refine PySem.W.callWith_K (h₀ := X.base) I.ok.mod.kin T.kC (thn (ha.run pos pins s σ H _ I h) fun us s1 ⟨vs, H1, I1, r1, hz, q1⟩ => ⟨I1.kIn, ?_⟩) he hpl
  show wpAny _ _ (call (.ref C) us) _ _ _
  obtain ⟨hp, g, dr, tk, os⟩ := s1
  have hsz : hp.objs.size ≤ hp.objs.size + 1 := Nat.le_succ _
  have hn : H1 (hp.objs.size + 1) = none := I1.hok.fresh hsz
  have hq := q1 (hp.objs.size + 1) hn
  have kk : ∀ b o, hp.get? b = some o → ((hp.push (PySem.W.kdv_tup us)).push (PySem.HandSPX.excO C hp.objs.size)).get? b = some o := fun b o e => Heap.get?_push_of_some _ (Heap.get?_push_of_some _ e)
  have hget : ((hp.push (PySem.W.kdv_tup us)).push (PySem.HandSPX.excO C hp.objs.size)).get? (hp.objs.size + 1) = some (PySem.HandSPX.excO C hp.objs.size) := by heap_get
  have I2 : Inv X pins σ (upd H1 (hp.objs.size + 1) (exo (hp.objs.size + 1) C none)) ⟨(hp.push (PySem.W.kdv_tup us)).push (PySem.HandSPX.excO C hp.objs.size), g, dr, tk, os⟩ :=
    I1.laid (t' := tk) (a := hp.objs.size + 1) (o := exo (hp.objs.size + 1) C none) (h' := (hp.push (PySem.W.kdv_tup us)).push (PySem.HandSPX.excO C hp.objs.size)) kk hsz (exo_ok hget)
  have r2 : Vals (V.ref (hp.objs.size + 1) :: (vs ++ dvs)) (Value.ref (hp.objs.size + 1) :: (us ++ ds)) := .cons rfl (r1.append hd)
  have hl : (Value.ref (hp.objs.size + 1) :: us ++ ds).length = ps.length := by
    have e := r2.length
    rw [F1.len _ _ _ _ hq] at e
    exact e.symm
  have hus : us.length ≤ sizeLine := by
    rw [← Paired.length r1, sizeLine_eq]
    omega
  refine wpAny_call (PySem.HandSPX.call_own FB.F (fun Y => rfl) (I1.kIn _ _ hC) (PySem.W.looks_findIn I1.kIn iC) (fun self => PySem.W.bind_fn I1.kIn self tI) hus
    (codeAny_mono (F1.run _ X.stack _ _ ⟨Value.ref (hp.objs.size + 1) :: us, []⟩ (Value.ref (hp.objs.size + 1) :: (us ++ ds)) _ _ (fun _ _ _ => False) (hr.make C us []) (I2.env0.make C us []) (hb _ (Value.ref (hp.objs.size + 1) :: us) I2.kIn hl) r2 hq) fun r s' hq' => ?_))
  cases r with
  | error er => exact hx pins σ _ _ er s' I2 hq'
  | ok fl =>
    cases fl with
    | ret u =>
      obtain ⟨v, H2, os2, bare2, un2, hok2, rv, ev, d, fs, ea, ed, hd1, q2⟩ := hq'
      subst ev
      obtain ⟨h2, g2, d2, t2, os'⟩ := s'
      exact ⟨rv, mk_end (raises_own T.exC T.tyC) I1 hsz kk un2 hok2 os2 bare2 ea ed hd1 q2⟩
    | next => exact False.elim hq'
    | brk => exact False.elim hq'
    | cont => exact False.elim hq'
end
/-! ### such an __init__: B.__init__(self, 'm'); self.f = f -/
def spXi (K : PySem.W.Frag) (C : Addr) (newId : String) (tail : List Value) (f : Str) : Sp := fun vs H Q _ => ∃ a v, vs = [.ref a, v] ∧ H a = some (exo a C none) ∧ OexB K C newId tail ∧ PySem.W.findIn K (.ref C) f = some none ∧
  ∀ dx, H dx = none → dx ≠ a → Q .non (upd (upd H dx (exd dx [(f, v)])) a (exo a C (some dx)))
def tXi (K : PySem.W.Frag) (newId : String) (tail : List Value) (m f : Str) : TS := tSeq (tDrop (tBI K newId tail (tCons (tVar 0) (tCons (tC (.str m)) tNil)))) (tOstB K newId tail f (tVar 0) (tVar 1))
theorem ok_xi {P : Program} {w : World} {K : PySem.W.Frag} {mg : Str → Option Value} {base : Heap} {C : Addr} {newId : String} {tail : List Value} {m fl qual : Str} {st : Stmt} {f : Addr} {fd : FuncData} (F : Fun K "__init__" qual st f fd) (S : FnScope ["self", fl] ["self", fl] (defScope st))
    (walk : ∀ (cdv : Value) (A : Around) (outer : List PySem.Env) (s : Shared) (H : Hp) (E : XK), PSs (cxOf (L2.CX P w) P w K mg base ["self", fl] qual (defScope st) f cdv A outer s H E) (defBody st) (tXi K newId tail m fl)) :
    FnOk P w K mg base (L2.CX P w) 1 f fd ["self", fl] (spXi K C newId tail fl) := by
  refine F.okX (k := 0) S (fun vs H Q E h => ?_) (fun cdv A outer s H vs Q E hr h => ⟨tXi K newId tail m fl, walk cdv A outer s H E, ?_⟩)
  · obtain ⟨a, v, rfl, _⟩ := h
    rfl
  · obtain ⟨a, v, rfl, ha, T, nf, q⟩ := h
    exact ⟨_, rfl, a, C, [.str m], rfl, (by decide : 1 ≤ 1000), T, ha, _, rfl, _, rfl, a, C, rfl, T, nf, ha, q⟩
/-- what the written part says of an own class with such an __init__ -/
structure XiOk (K : PySem.W.Frag) (mg : Str → Option Value) (n fl : Str) (newId : String) (tail : List Value) (qual : Str) (st : Stmt) (fI : Addr) (fd : FuncData) : Prop where
  gm : mg n = some (.ref (cA K n))
  T : OexB K (cA K n) newId tail
  nf : PySem.W.findIn K (.ref (cA K n)) fl = some none
  iC : PySem.W.findIn K (.ref (cA K n)) "__init__" = some (some (.ref fI))
  tI : PySem.W.typeIn K (.ref fI) = some (.type "function")
  F : Fun K "__init__" qual st fI fd
  b : Binds K fd ["self", fl] []
def tMk1 (C : Addr) (f : Str) (ta : TA) : L2.St → Hp → XK → Prop := fun σ H Q => ta σ H fun vs H1 => ∃ v, vs = [v] ∧ ∀ d, H1 d = none → Q (.ref C) (some d) (upd H1 d (.xd [(f, v)]))
theorem PMk.imp {X : Cx} {e : Expr} {t t' : L2.St → Hp → XK → Prop} (h : PMk X e t) (i : ∀ σ H Q, t' σ H Q → t σ H Q) : PMk X e t' := fun pins s σ H Q I q => h pins s σ H Q I (i _ _ _ q)
theorem del_back {H : Hp} {a d C : Addr} {o u : HO} {f : Str} {v : V} (hn : H a = none) (hd : d ≠ a) : upd (del (upd (upd (upd H a o) d u) a (exo a C (some d))) a) d (.xd [(f, v)]) = upd H d (.xd [(f, v)]) := by
  funext b
  by_cases e : b = d
  · rw [e, upd_same, upd_same]
  · rw [upd_ne e, upd_ne e]
    by_cases e2 : b = a
    · rw [e2, del_same, hn]
    · rw [del_ne e2, upd_ne e2, upd_ne e, upd_ne e2]
section
variable {X : Cx} {e : Expr} {ta : TA} {x fl qual : Str} {st : Stmt} {fI : Addr} {fd : FuncData} {p pos kpos : Pos} {B newId initId : String} {tail : List Value}
theorem pure_mk1 {σ : L2.St} {H : Hp} {Q : XK} {K : PySem.W.Frag} {C : Addr} (T : OexB K C newId tail) (nf : PySem.W.findIn K (.ref C) fl = some none) (one : ∀ σ H (Q Q' : List V → Hp → Prop), (∀ vs H, Q vs H → Q' vs H) → ta σ H Q → ta σ H Q') (h : tMk1 C fl ta σ H Q) : tMkO C (spXi K C newId tail fl) [] ta σ H Q := by
  refine one _ _ _ _ (fun vs H1 ⟨v, ev, q⟩ => ⟨by rw [ev]; exact (by decide : 1 ≤ 1000), fun a hn => ?_⟩) h
  subst ev
  refine ⟨a, v, rfl, upd_same, T, nf, fun dx hd ne => ⟨rfl, dx, [(fl, v)], upd_same, ?_, ?_, ?_⟩⟩
  · rw [upd_ne ne, upd_same]
  · rw [upd_ne ne] at hd
    exact hd
  · rw [del_back hn ne]
    rw [upd_ne ne] at hd
    exact q dx hd
end
end FL
namespace FL
open PySem PySem.Spec PyProof.Rows L2
/-! ### exceptions as values, raise -/
theorem exv_ok {P : Program} {w : World} {H : Hp} {h : Heap} {a C : Addr} {d : Option Addr} {oe : Obj} {vs : Array Value} (e : h.get? a = some oe) (z : Zc (.ref C) d oe) (hd : oe.data = .fields vs) : ObjOk P w H h a (exv C d a) :=
  ⟨⟨oe, vs, e, z, hd⟩, ⟨oe, e⟩, fun _ _ ⟨o, v, q, r⟩ k => ⟨o, v, k o q, r⟩⟩
theorem exv_at {P : Program} {w : World} {H : Hp} {h : Heap} {a C : Addr} {d : Option Addr} (hok : HOk P w H h) (he : H a = some (exv C d a)) : ∃ oe vs, h.get? a = some oe ∧ Zc (.ref C) d oe ∧ oe.data = .fields vs := by
  have x : ObjOk P w H h a (exv C d a) := hok a _ he
  exact x.1
section
variable {X : Cx} {pins : List (Addr × Obj)} {σ : L2.St} {H : Hp}
theorem inv_at {s s' : Shared} (I : Inv X pins σ H s) (hh : s'.heap = s.heap) (ho : s'.os = s.os) (hb : AllBare s'.gens) : Inv X pins σ H s' := by
  obtain ⟨h', g', d', t', o'⟩ := s'
  obtain ⟨h, g, d, t, o⟩ := s
  dsimp only at hh ho hb
  subst hh ho
  exact ⟨I.ok, I.os, hb, I.base, I.loc, I.cell, I.free, I.freeC, I.pin, I.hok, I.len⟩
theorem Inv.track {sI s' : Shared} {a C : Addr} {d : Option Addr} {oe : Obj} {vs : Array Value} (J : Inv X pins σ H sI) (k : ∀ b o, sI.heap.get? b = some o → s'.heap.get? b = some o) (hne : sI.heap.get? a = none) (na : H a = none)
    (ha : s'.heap.get? a = some oe) (hz : Zc (.ref C) d oe) (hd : oe.data = .fields vs) (os : s'.os = sI.os) (ag : AllBare s'.gens) : Inv X pins σ (upd H a (exv C d a)) s' :=
  inv_at (L2.Inv.laidN (h' := s'.heap) (t' := s'.toks) (o := exv C d a) J k hne na (exv_ok ha hz hd)) rfl os ag
/-- .. in a later heap, that has it -/
theorem Inv.trackAt {sI s4 : Shared} {a C : Addr} {d : Option Addr} {oe : Obj} {vs : Array Value} (J : Inv X pins σ H sI) (J4 : Inv X pins σ H s4) (hne : sI.heap.get? a = none) (na : H a = none) (hx : X.ex = [])
    (ha : s4.heap.get? a = some oe) (hz : Zc (.ref C) d oe) (hd : oe.data = .fields vs) : Inv X pins σ (upd H a (exv C d a)) s4 := by
  have nin : ∀ b o, sI.heap.get? b = some o → b ≠ a := fun b o e z => by
    rw [z, hne] at e
    cases e
  have n0 : ∀ b o, X.s_0.heap.get? b = some o → b ≠ a := fun b o e => by
    obtain ⟨o', q⟩ := J.base.there b o e (by rw [hx]; exact fun z => nomatch z)
    exact nin b o' q
  have nN : ∀ b u, H b = some u → b ≠ a := fun b u e z => by
    rw [z, na] at e
    cases e
  refine ⟨J4.ok, J4.os, J4.bare, ⟨J4.base.keep, J4.base.slot, fun b o e n hb => ?_, J4.base.there, fun b xs e => ?_, fun b o u e => ?_, fun b ps e => ?_⟩, J4.loc, J4.cell, ?_, fun x c e => ?_, fun p hp => ?_, fun b u e => ?_, J4.len⟩
  · rw [upd_ne (n0 b o e)]
    exact J4.base.free b o e n hb
  · have q := J4.base.tups b xs e
    rw [upd_ne (nN _ _ q)]
    exact q
  · have q := J4.base.frzs b o u e
    rw [upd_ne (nN _ _ q)]
    exact q
  · obtain ⟨m, q⟩ := J4.base.tbls b ps e
    exact ⟨m, by rw [upd_ne (nN _ _ q)]; exact q⟩
  · obtain ⟨m, ⟨o, es, ep, ho, r⟩, hl⟩ := J.loc
    rw [upd_ne (nin _ _ ho)]
    exact J4.free
  · obtain ⟨v, o, ho, r⟩ := J.cell x c e
    rw [upd_ne (nin _ _ ho)]
    exact J4.freeC x c e
  · obtain ⟨e1, n1, e2⟩ := J4.pin p hp
    obtain ⟨e3, _⟩ := J.pin p hp
    exact ⟨e1, by rw [upd_ne (nin _ _ e3)]; exact n1, e2⟩
  · by_cases hb : b = a
    · subst hb
      rw [upd_same] at e
      cases e
      exact exv_ok ha hz hd
    · rw [upd_ne hb] at e
      exact (J4.hok b u e).stay (fun c v _ q => q) (fun c q => by rw [upd_ne (nN _ _ q)]; exact q) fun c xs q => by rw [upd_ne (nN _ _ q)]; exact q
end
def tExV (t : L2.St → Hp → XK → Prop) : TE := fun σ H Q => t σ H fun cls d H' => ∃ C, cls = .ref C ∧ ∀ a, H' a = none → Q (.ref a) (upd H' a (exv C d a))
theorem pe_mk {X : Cx} {e : Expr} {t : L2.St → Hp → XK → Prop} (h : PMk X e t) : PE X e (tExV t) := ⟨fun pins s σ H Q I q => wpAny_mono (h pins s σ H _ I q) (fun u s' hu => by
  obtain ⟨a, oe, vs, sI, H', cls, d, rfl, J, k, hne, ha, hz, hd, h1, na, os, ag, r, C, rfl, q⟩ := hu
  exact ⟨.ref a, _, Inv.track J k hne na ha hz hd os ag, rfl, q a na⟩) fun _ _ z => z⟩
def xvOf : Val → Option XV
  | .ex0 n => some (n, none)
  | .ex1 n f y => some (n, some (f, y))
  | _ => none
def xvV : XV → Val
  | (n, none) => .ex0 n
  | (n, some (f, y)) => .ex1 n f y
theorem xv_eq {x : Val} {c : XV} (h : xvOf x = some c) : x = xvV c := by
  cases x <;> first
    | (cases h; rfl)
    | cases h
/-- the exception that a wish tells of, tracked -/
theorem xv_vr {K : PySem.W.Frag} {fr : Addr → Prop} {H : Hp} {ms : List Addr} {st : Store} {d : Option Addr} (s : SR K fr H ms st) : ∀ {c : XV} {a : Addr}, XR K fr H ms d c → H a = none → VR K fr (upd H a (exv (cA K c.1) d a)) ms (.ref a) (xvV c)
  | (n, none), a, r, na => by
    have e : d = none := r
    subst e
    exact .ex0 upd_same
  | (n, some (f, y)), a, r, na => by
    obtain ⟨dd, v, rfl, h1, h2⟩ := r
    exact .ex1 upd_same ((upd_ne (ne_of_none h1 na)).trans h1) (h2.ex s (Ext.new _ na))
def LM (K : PySem.W.Frag) (W : WX) (te : FE) : L2.St → Hp → XK → Prop := fun σ H Q => ∃ fr ms ρ st, Wd K fr H ms σ ρ st ∧ G K W σ fr H ms (te ρ st) (fun x fr' H' ms' st' => ∃ c, xvOf x = some c ∧
  ∀ fr'' H'' ms'' d, Ext ms'.length fr' H' ms' fr'' H'' ms'' → SR K fr'' H'' ms'' st' → XR K fr'' H'' ms'' d c → Q (.ref (cA K c.1)) d H'')
abbrev DM (X : Cx) (W : WX) (e : Expr) (te : FE) : Prop := PMk X e (LM X.K W te)
def eMk1 (n f : Str) (ta : FA) : FE := fun ρ st => (ta ρ st).bind fun xs st1 => match xs with
  | [x] => .ok (.ex1 n f x) st1
  | _ => .bad
theorem LA.mono {K : PySem.W.Frag} {W : WX} {t : FA} {σ : L2.St} {H : Hp} {Q Q' : List V → Hp → Prop} (i : ∀ vs H, Q vs H → Q' vs H) (h : LA K W t σ H Q) : LA K W t σ H Q' := by
  obtain ⟨fr, ms, ρ, st, w, g⟩ := h
  exact ⟨fr, ms, ρ, st, w, g.mono fun xs st1 fr1 H1 ms1 _ _ p vs rs => i _ _ (p vs rs)⟩
section
variable {X : Cx} {W : WX} {e : Expr} {ta : FA} {te : FE} {x fl qual : Str} {st : Stmt} {fI : Addr} {fd : FuncData} {p pos kpos : Pos} {B newId initId : String} {tail : List Value}
theorem le_mk1 {K : PySem.W.Frag} {n f : Str} {σ : L2.St} {H : Hp} {Q : XK} : LM K W (eMk1 n f ta) σ H Q → tMk1 (cA K n) f (LA K W ta) σ H Q := fun ⟨fr, ms, ρ, st, w, g⟩ =>
  ⟨fr, ms, ρ, st, w, g.bind.mono fun xs st1 fr1 H1 ms1 _ _ ⟨e1, s1, g1⟩ vs rs => by
    split at g1
    · obtain ⟨v, rfl, rv⟩ := vrs1 rs
      refine ⟨v, rfl, fun d hd => ?_⟩
      obtain ⟨c, hc, q⟩ := g1.now s1
      cases hc
      exact q _ _ _ (some d) (Ext.new _ hd) (s1.new hd) ⟨d, v, rfl, upd_same, rv.ex s1 (Ext.new _ hd)⟩
    · exact g1.elim⟩
/-- C(e), C's own __init__ keeping its one field -/
theorem m_mk1 (FB : BaseX B newId initId tail) (T : XiOk X.K X.mg x fl newId tail qual st fI fd) (ok : FnOk X.prog X.w X.K X.mg X.base (L2.CX X.prog X.w) 1 fI fd ["self", fl] (spXi X.K (cA X.K x) newId tail fl)) (hr : Room 2 X.A) (ha : DA X W [e] ta) (hg : Gl X x := by rfl)
    (hdb : (x == ("__debug__" : Str)) = false := by decide) (he : starEach [e] X.env = (false, eval e X.env) :: starEach [] X.env := by rfl) (hpl : (backTo pos (starEach [] X.env)).any (·.1) = false := by rfl) : DM X W (.Call (.Name x p) [e] [] pos) (eMk1 x fl ta) :=
  FL.PMk.imp (pmk_oexB FB T.T T.iC T.tI ok hr T.b .nil (fun _ _ _ _ _ _ _ ⟨_, _, _, _, _, _, _, _, _, _, _, _, z⟩ => z.elim) hg T.gm ha hdb he hpl) fun σ H Q h => pure_mk1 T.T T.nf (fun _ _ _ _ i h => LA.mono i h) (le_mk1 h)
theorem d_exv (h : DM X W e te) (hx : ∀ ρ st x st', te ρ st = .ok x st' → (xvOf x).isSome = true) : DE X W e te := pe_imp (pe_mk h) fun σ H Q ⟨fr, ms, ρ, st, w, g⟩ => by
  refine ⟨fr, ms, ρ, st, w, ?_⟩
  cases hr : te ρ st with
  | bad =>
    rw [hr] at g
    exact g.elim
  | exc y st1 =>
    rw [hr] at g
    exact g
  | ok y st1 =>
    rw [hr] at g
    intro fr1 H1 ms1 e1 s1
    have hs := hx _ _ _ _ hr
    cases hc : xvOf y with
    | none =>
      rw [hc] at hs
      cases hs
    | some c =>
      refine ⟨c, rfl, fun fr2 H2 ms2 d e2 s2 r => ⟨_, rfl, fun a na => ?_⟩⟩
      rw [xv_eq hc] at g
      exact g _ _ _ ((e1.then e2).then (Ext.new _ na)) (s2.new na) _ (xv_vr s2 r na)
theorem mk1_x {n f : Str} : ∀ ρ st x st', eMk1 n f ta ρ st = .ok x st' → (xvOf x).isSome = true := fun ρ st x st' h => by
  unfold eMk1 at h
  cases hr : ta ρ st with
  | bad =>
    rw [hr] at h
    cases h
  | exc y st1 =>
    rw [hr] at h
    cases h
  | ok y st1 =>
    rw [hr] at h
    dsimp only [R.bind] at h
    split at h
    · cases h
      rfl
    · cases h
/-- raise -/
def sRaise (te : FE) : FS := fun ρ st => (te ρ st).to ρ fun x st1 => match xvOf x with
  | some c => .ex c ρ st1
  | none => .bad
theorem s_raise (hc : X.calm = true) (tk : Takes X W) (h : DM X W e te) : DS X W (.Raise (some e) none pos) (sRaise te) := ps_imp (ps_raise hc tk h) fun D σ H ⟨fr, ms, ρ, st, w, g⟩ =>
  ⟨fr, ms, ρ, st, w, (g.to w).mono fun x st1 fr1 H1 ms1 _ _ ⟨e1, s1, w1, g1⟩ => by
    cases hc : xvOf x with
    | none =>
      rw [hc] at g1
      exact g1.elim
    | some c =>
      rw [hc] at g1
      exact ⟨c, rfl, fun fr2 H2 ms2 d e2 s2 r => g1 _ _ _ σ d e2 (w1.on e2 s2) r⟩⟩
end
/-! ### try -/
def endsAt (oi : Option Nat) (D : Ends) : Ends := match oi with
  | some i => { nx := fun σ' H' => D.nx (σ'.set i none) H', rt := D.rt, bk := fun σ' H' => D.bk (σ'.set i none) H', ct := fun σ' H' => D.ct (σ'.set i none) H' }
  | none => D
def putAt {α : Type} (oi : Option Nat) (σ : List (Option α)) (x : α) : List (Option α) := match oi with
  | some i => σ.set i (some x)
  | none => σ
/-- what the clauses wish of an exception of the body -/
def wHd (K : PySem.W.Frag) (Wout : WX) (D : Ends) : List (Value × Option Nat × TS) → WX
  | [] => Wout
  | (c, oi, ts) :: r => fun cls d σ H => ∃ b, PySem.W.exmOne K cls c = some b ∧ (b = true → ∃ C, cls = .ref C ∧ ∀ a, H a = none → ts (endsAt oi D) (putAt oi σ (.ref a)) (upd H a (exv C d a))) ∧ (b = false → wHd K Wout D r cls d σ H)
inductive HdX (X : Cx) : List ExceptHandler → List (Value × Option Nat × TS) → Prop
  | nil : HdX X [] []
  | plain {x : Str} {c : Value} {ts : TS} {b₀ : Stmt} {suite : List Stmt} {np pos' : Pos} {hds : List ExceptHandler} {l : List (Value × Option Nat × TS)} (hc : Names X x c) (hsu : ∀ (a : Addr) (pn : List (Addr × Obj)), PSs (X.suite a pn) (b₀ :: suite) ts) (r : HdX X hds l) :
      HdX X (.ExceptHandler (some (.Name x np)) none (b₀ :: suite) pos' :: hds) ((c, none, ts) :: l)
  | named {x n : Str} {i : Nat} {c : Value} {ts : TS} {b₀ : Stmt} {suite : List Stmt} {np pos' : Pos} {hds : List ExceptHandler} {l : List (Value × Option Nat × TS)} (hc : Names X x c) (hi : X.N[i]? = some n) (hln : X.env.kindOf n = some .local) (hsu : ∀ (a : Addr) (pn : List (Addr × Obj)), PSs (X.suite a pn) (b₀ :: suite) ts) (r : HdX X hds l) :
      HdX X (.ExceptHandler (some (.Name x np)) (some n) (b₀ :: suite) pos' :: hds) ((c, some i, ts) :: l)
section
variable {X : Cx} {pins : List (Addr × Obj)} {σ : L2.St} {H : Hp} {s : Shared}
theorem Inv.toSuite {a : Addr} (I : Inv X pins σ H s) : Inv (X.suite a (X.pn ++ pins)) [] σ H s :=
  ⟨L2.Cx.Ok.suite I.ok _ _, I.os, I.bare, I.base, I.loc, I.cell, I.free, I.freeC, fun p hp => I.pin p (by rw [List.append_nil] at hp; exact hp), I.hok, I.len⟩
theorem Inv.ofSuite {a : Addr} {pn' : List (Addr × Obj)} (I : Inv (X.suite a (X.pn ++ pins)) pn' σ H s) (ok : X.Ok) : Inv X pins σ H s :=
  ⟨ok, I.os, I.bare, I.base, I.loc, I.cell, I.free, I.freeC, fun p hp => I.pin p (List.mem_append_left _ hp), I.hok, I.len⟩
end
section
variable {X : Cx} {body : List Stmt} {h₀ : ExceptHandler} {hds : List ExceptHandler} {l : List (Value × Option Nat × TS)} {pos : Pos} {tb : WX → TS} {Wout : WX}
theorem ps_tryX (hs : X.stack = X.env :: X.outer) (hf : X.env.frame = some X.env.locals) (hN : X.N.Nodup) (hex : X.ex = []) (tk : Takes X Wout)
    (hb : ∀ (W : WX) (pn : List (Addr × Obj)) (xe : Value → Shared → Prop), Takes (X.tr pn xe) W → PassesOwn (model X.prog X.w) X.A X.env xe → PSs (X.tr pn xe) body (tb W))
    (hh : HdX X (h₀ :: hds) l) : PS X (.Try body (h₀ :: hds) [] [] pos) (fun D σ H => tb (wHd X.K Wout D l) D σ H) := by
  refine ⟨fun pins s σ H D I h => ?_⟩
  have ok := I.ok
  have hfr : X.A.frames = some (X.env :: X.outer) := by rw [ok.frames, hs]
  refine wpAny_Try_except ?_
  refine wpAny_mono ((hb (wHd X.K Wout D l) (X.pn ++ pins) (fun e s₁ => wpAny (model X.prog X.w) X.A (noteFrame e X.env) (fun _ s₂ => wpAny (model X.prog X.w) X.A (setFlight e none) (fun _ s₃ =>
    wpAny (model X.prog X.w) X.A (handleBy e X.env (h₀ :: hds)) (SP X pins D) X.xe s₃) X.xe s₂) X.xe s₁) (fun u s' xx => ?_) PassesOwn.looking).run [] s σ H D (L2.Inv.toTry I _) h) (fun f s1 hsp => ?_) (fun e s1 he => he)
  · obtain ⟨a, B, sI, pins', σ', H', cls, d, rfl, J', nb, up, sky, na, os, ag, w⟩ := xx
    have J : Inv X pins σ' H' sI := L2.Inv.ofTry J' ok
    have sky' : Sky B (X.env :: X.outer) a (Zc cls d) X.env.locals s'.heap := by rw [← hs]; exact sky
    show wpAny (model X.prog X.w) X.A (noteFrame (.ref a) X.env) _ _ _
    refine Sky.land Zc.steady hfr hf sky' fun h3 fl3 up3 => ?_
    have J3 : Inv X pins σ' H' { s' with heap := h3 } := J.landed nb fl3.1 (up.trans up3) os ag
    obtain ⟨oe3, vs3, he3, hz3, hd3⟩ := fl3.there
    have notFr : ∀ {h : Heap} {o : Obj} {vs : Array Value}, h.FunFrames B (X.env :: X.outer) → h.get? a = some o → o.data = .fields vs → a ∉ frs (X.env :: X.outer) := fun {h o vs} ff e dd hm => by
      obtain ⟨_, o', e', hnf⟩ := ff.mem hm
      rw [e] at e'; cases e'
      exact hnf _ dd
    have nfr := notFr fl3.2.2.1 he3 hd3
    have hne : sI.heap.get? a = none := by
      cases e : sI.heap.get? a with
      | none => rfl
      | some o =>
        have q := nb a o e (by rw [hs]; exact nfr)
        have q2 := fl3.2.1
        rw [q] at q2
        cases q2
    have S3 : Inv (X.suite a (X.pn ++ pins)) [] σ' H' { s' with heap := h3 } := Inv.toSuite J3
    have go : ∀ {hds' : List ExceptHandler} {l' : List (Value × Option Nat × TS)}, HdX X hds' l' → wHd X.K Wout D l' cls d σ' H' →
        wpAny (model X.prog X.w) X.A (handleBy (.ref a) X.env hds') (SP X pins D) X.xe { s' with heap := h3 } := by
      intro hds' l' hk
      have LT : PySem.W.Looks (model X.prog X.w) h3 (typeOf (.ref a)) cls := fun A Q E s k q => wpAny_typeOf_ref (k _ _ he3) (by rw [hz3.1]; exact q)
      have test : ∀ {x : Str} {c : Value} {np : Pos} {Q : Value → Shared → Prop} {E : Value → Shared → Prop}, Names X x c → Q c { s' with heap := h3 } → wpAny (model X.prog X.w) (X.A.mark (some (.ref a))) (eval (.Name x np) X.env) Q E { s' with heap := h3 } := fun {x c np Q E} hc q => by
        obtain ⟨hg, hdbg, hm | ⟨hm, hv, hnn⟩⟩ := hc
        · exact ld_glob (X := X.suite a (X.pn ++ pins)) S3 hg hm q hdbg
        · exact ld_blt (X := X.suite a (X.pn ++ pins)) S3 hg hm hv q hnn hdbg
      induction hk with
      | nil =>
        intro w
        refine wpAny_handleBy_nil ?_
        obtain ⟨k1, k2, k3, oe, vs, T, oT, ts', he, hz, hd, h1, hr⟩ := id fl3
        unfold PySem.passOn
        refine wpAny_bind (wpAny_field he hd h1 ?_)
        rw [if_neg (show ¬ ((Value.ref T == Value.none) = true) from by simp)]
        have fin : wpAny (model X.prog X.w) X.A (setFlight (.ref a) X.env.frame) (fun _ s4 => wpAny (model X.prog X.w) X.A (throw (.ref a) : Sem Flow) (SP X pins D) X.xe s4) X.xe { s' with heap := h3 } := by
          rw [hf]
          refine HandSPX.setFlight_upZ fl3 fun h4 hh4 up4 => wpAny_throw (tk _ _ ?_)
          exact ⟨a, B, sI, pins, σ', H', cls, d, rfl, J, nb, (up.trans up3).trans up4, .inr (.inr (by rw [hs]; exact hh4)), na, os, ag, w⟩
        first
          | exact wpAny_bind (wpAny_pure (wpAny_bind fin))
          | exact wpAny_bind fin
      | @plain x c ts b₀ suite np pos' hds2 l2 hc hsu r ih =>
        intro w
        obtain ⟨b, hb1, hyes, hno⟩ := w
        have LM := PySem.W.exm_one (M := model X.prog X.w) (J3.kIn) LT hb1
        refine wpAny_handleBy_cons (codeAny_handlers_test ?_) (by intro q; cases q)
        refine test hc (LM.here ?_)
        cases b with
        | true =>
          obtain ⟨C, rfl, hy⟩ := hyes rfl
          refine codeAny_handlers_suite ?_
          refine HandSPX.lands_againZ fl3 fun h4 fl4 up4 => ?_
          have J4 : Inv X pins σ' H' { s' with heap := h4 } := J.landed nb fl4.1 ((up.trans up3).trans up4) os ag
          obtain ⟨oe4, vs4, he4, hz4, hd4⟩ := fl4.there
          have S4 := Inv.toSuite (a := a) (Inv.trackAt (s4 := { s' with heap := h4 }) J J4 hne na hex he4 hz4 hd4)
          refine wpAny_mono ((hsu a (X.pn ++ pins)).run [] _ _ _ _ S4 (hy a na)) (fun f s6 hsp => ?_) (fun _ _ z => False.elim z)
          cases f with
          | next =>
            obtain ⟨σ6, H6, S6, q6⟩ := hsp
            exact ⟨_, _, Inv.ofSuite S6 ok, q6⟩
          | brk =>
            obtain ⟨σ6, H6, S6, q6⟩ := hsp
            exact ⟨_, _, Inv.ofSuite S6 ok, q6⟩
          | cont =>
            obtain ⟨σ6, H6, S6, q6⟩ := hsp
            exact ⟨_, _, Inv.ofSuite S6 ok, q6⟩
          | ret u =>
            obtain ⟨v6, σ6, H6, S6, r6, q6⟩ := hsp
            exact ⟨_, _, _, Inv.ofSuite S6 ok, r6, q6⟩
        | false =>
          show wpAny _ X.A (handleBy (.ref a) X.env hds2) _ _ _
          exact ih (hno rfl)
      | @named x n i c ts b₀ suite np pos' hds2 l2 hc hi hln hsu r ih =>
        intro w
        obtain ⟨b, hb1, hyes, hno⟩ := w
        have LM := PySem.W.exm_one (M := model X.prog X.w) (J3.kIn) LT hb1
        have hloc : Loc X.env.scope n := .inl hln
        refine wpAny_handleBy_cons (codeAny_handlers_test ?_) (by intro q; cases q)
        refine test hc (LM.here ?_)
        cases b with
        | true =>
          obtain ⟨C, rfl, hy⟩ := hyes rfl
          refine codeAny_handlers_suite_as ?_
          refine HandSPX.lands_againZ fl3 fun h4 fl4 up4 => ?_
          have J4 : Inv X pins σ' H' { s' with heap := h4 } := J.landed nb fl4.1 ((up.trans up3).trans up4) os ag
          obtain ⟨oe4, vs4, he4, hz4, hd4⟩ := fl4.there
          have S4 := Inv.toSuite (a := a) (Inv.trackAt (s4 := { s' with heap := h4 }) J J4 hne na hex he4 hz4 hd4)
          refine store_ok (X := X.suite a (X.pn ++ pins)) (v := .ref a) S4 hN hi hloc rfl (fun s5 S5 => ?_) (.inr hln)
          refine wpAny_mono ((hsu a (X.pn ++ pins)).run [] s5 _ _ _ S5 (hy a na)) (fun f s6 hsp => ?_) (fun _ _ z => False.elim z)
          have end_ : ∀ {σ6 : L2.St} {H6 : Hp} {Q : Shared → Prop}, Inv (X.suite a (X.pn ++ pins)) [] σ6 H6 s6 → (∀ s7, Inv X pins (σ6.set i none) H6 s7 → Q s7) →
              wpAny (model X.prog X.w) X.A (do bindName X.env n .none; unbindBehindTheSuite X.env n pos') (fun _ s7 => Q s7) X.xe s6 := fun {σ6 H6 Q} S6 hq => gone_ok (Inv.ofSuite S6 ok) hN hi hln hq
          cases f with
          | next =>
            obtain ⟨σ6, H6, S6, q6⟩ := hsp
            exact end_ S6 fun s7 J7 => ⟨_, _, J7, q6⟩
          | brk =>
            obtain ⟨σ6, H6, S6, q6⟩ := hsp
            exact end_ S6 fun s7 J7 => ⟨_, _, J7, q6⟩
          | cont =>
            obtain ⟨σ6, H6, S6, q6⟩ := hsp
            exact end_ S6 fun s7 J7 => ⟨_, _, J7, q6⟩
          | ret u =>
            obtain ⟨v6, σ6, H6, S6, r6, q6⟩ := hsp
            exact end_ S6 fun s7 J7 => ⟨_, _, _, J7, r6, q6⟩
        | false =>
          show wpAny _ X.A (handleBy (.ref a) X.env hds2) _ _ _
          exact ih (hno rfl)
    exact go hh w
  · cases f with
    | next =>
      obtain ⟨σ', H', J', q⟩ := hsp
      exact wpAny_execs_nil ⟨σ', H', L2.Inv.ofTry J' ok, q⟩
    | brk =>
      obtain ⟨σ', H', J', q⟩ := hsp
      exact ⟨σ', H', L2.Inv.ofTry J' ok, q⟩
    | cont =>
      obtain ⟨σ', H', J', q⟩ := hsp
      exact ⟨σ', H', L2.Inv.ofTry J' ok, q⟩
    | ret u =>
      obtain ⟨v, σ', H', J', r, q⟩ := hsp
      exact ⟨v, σ', H', L2.Inv.ofTry J' ok, r, q⟩
end
/-- which class lies under which -/
abbrev ClsT := Str → Str → Option Bool
def TbOk (K : PySem.W.Frag) (tb : ClsT) : Prop := ∀ n m b, tb n m = some b → PySem.W.exmOne K (.ref (cA K n)) (.ref (cA K m)) = some b
def S.unname (r : S) (oi : Option Nat) : S := match oi with
  | none => (match r with
    | .ex _ _ _ => .bad
    | r => r)
  | some i => (match r with
    | .nx ρ st => .nx (ρ.set i none) st
    | .bk ρ st => .bk (ρ.set i none) st
    | .ct ρ st => .ct (ρ.set i none) st
    | .rt x st => .rt x st
    | _ => .bad)
def hnd (tb : ClsT) (x : XV) (ρ : Env) (st : Store) : List (Str × Option Nat × FS) → S
  | [] => .ex x ρ st
  | (c, oi, u) :: r => (match tb x.1 c with
    | some true => (u (putAt oi ρ (xvV x)) st).unname oi
    | some false => hnd tb x ρ st r
    | none => .bad)
def sTry (tb : ClsT) (hs : List (Str × Option Nat × FS)) (t : FS) : FS := fun ρ st => match t ρ st with
  | .ex x ρ1 st1 => hnd tb x ρ1 st1 hs
  | r => r
theorem Wd.unput {K : PySem.W.Frag} {fr : Addr → Prop} {H : Hp} {ms : List Addr} {σ : L2.St} {ρ : Env} {st : Store} (w : Wd K fr H ms σ ρ st) (i : Nat) : Wd K fr H ms (σ.set i none) (ρ.set i none) st := by
  refine ⟨by rw [List.length_set, List.length_set, w.len], fun j y hj => ?_, w.sr⟩
  by_cases e : i = j
  · subst e
    by_cases hl : i < ρ.length
    · rw [List.getElem?_set_self hl] at hj
      cases hj
    · rw [List.getElem?_eq_none (by rw [List.length_set]; omega)] at hj
      cases hj
  · rw [List.getElem?_set_ne e] at hj
    rw [List.getElem?_set_ne e]
    exact w.env j y hj
theorem GS.unname {K : PySem.W.Frag} {W : WX} {fr : Addr → Prop} {H : Hp} {ms : List Addr} {D : Ends} : ∀ {oi : Option Nat} {r : S}, GS K W fr H ms (r.unname oi) D → GS K noW fr H ms r (endsAt oi D)
  | none, .nx ρ st, g => g
  | none, .rt ρ st, g => g
  | none, .bk ρ st, g => g
  | none, .ct ρ st, g => g
  | none, .ex _ _ _, g => g.elim
  | none, .bad, g => g
  | some i, .nx ρ st, g => fun fr' H' ms' σ' e' w => g _ _ _ _ e' (w.unput i)
  | some i, .rt ρ st, g => g
  | some i, .bk ρ st, g => fun fr' H' ms' σ' e' w => g _ _ _ _ e' (w.unput i)
  | some i, .ct ρ st, g => fun fr' H' ms' σ' e' w => g _ _ _ _ e' (w.unput i)
  | some i, .ex _ _ _, g => g.elim
  | some i, .bad, g => g
theorem Wd.putAt {K : PySem.W.Frag} {fr : Addr → Prop} {H : Hp} {ms : List Addr} {σ : L2.St} {ρ : Env} {st : Store} {v : V} {x : Val} (w : Wd K fr H ms σ ρ st) (h : VR K fr H ms v x) : ∀ oi : Option Nat, Wd K fr H ms (FL.putAt oi σ v) (FL.putAt oi ρ x) st
  | none => w
  | some i => w.put h i
abbrev lH (K : PySem.W.Frag) (hs : List (Str × Option Nat × FS)) : List (Value × Option Nat × TS) := hs.map fun p => (.ref (cA K p.1), p.2.1, LS K noW p.2.2)
theorem hnd_at {K : PySem.W.Frag} {Wout : WX} {tb : ClsT} (ht : TbOk K tb) {D : Ends} {x : XV} {ρ : Env} {st : Store} {σ : L2.St} {fr : Addr → Prop} {H : Hp} {ms : List Addr} {d : Option Addr} (w : Wd K fr H ms σ ρ st) (r : XR K fr H ms d x) :
    ∀ hs : List (Str × Option Nat × FS), GS K Wout fr H ms (hnd tb x ρ st hs) D → wHd K Wout D (lH K hs) (.ref (cA K x.1)) d σ H
  | [], g => g _ _ _ σ d (Ext.refl _ _ _ _) w r
  | (c, oi, u) :: l, g => by
    unfold hnd at g
    split at g
    · next h =>
      refine ⟨true, ht _ _ _ h, fun _ => ⟨_, rfl, fun a na => ?_⟩, fun z => by cases z⟩
      have e := Ext.new (fr := fr) (ms := ms) (o := exv (cA K x.1) d a) ms.length na
      exact ⟨fr, ms, _, st, (w.on e (w.sr.new na)).putAt (xv_vr w.sr r na) oi, GS.at (GS.unname g) e⟩
    · next h => exact ⟨false, ht _ _ _ h, (fun z => by cases z), fun _ => hnd_at ht w r l g⟩
    · exact g.elim
theorem le_try {K : PySem.W.Frag} {Wout : WX} {tb : ClsT} (ht : TbOk K tb) {hs : List (Str × Option Nat × FS)} {t : FS} {D : Ends} {σ : L2.St} {H : Hp} (h : LS K Wout (sTry tb hs t) D σ H) : LS K (wHd K Wout D (lH K hs)) t D σ H := by
  obtain ⟨fr, ms, ρ, st, w, g⟩ := h
  refine ⟨fr, ms, ρ, st, w, ?_⟩
  unfold sTry at g
  cases hr : t ρ st with
  | ex x ρ1 st1 =>
    rw [hr] at g
    exact fun fr' H' ms' σ' d e' w' r => hnd_at ht w' r hs (GS.at g e')
  | _ =>
    rw [hr] at g
    exact g
abbrev DH (X : Cx) (hds : List ExceptHandler) (hs : List (Str × Option Nat × FS)) : Prop := HdX X hds (lH X.K hs)
section
variable {X : Cx} {W : WX} {body : List Stmt} {h₀ : ExceptHandler} {hds : List ExceptHandler} {hs : List (Str × Option Nat × FS)} {pos : Pos} {t : FS} {tb : ClsT}
theorem s_try (ht : TbOk X.K tb) (hN : X.N.Nodup) (tk : Takes X W) (hb : ∀ (W : WX) (pn : List (Addr × Obj)) (xe : Value → Shared → Prop), Takes (X.tr pn xe) W → PassesOwn (model X.prog X.w) X.A X.env xe → DSs (X.tr pn xe) W body t)
    (hh : DH X (h₀ :: hds) hs) (hst : X.stack = X.env :: X.outer := by rfl) (hf : X.env.frame = some X.env.locals := by rfl) (hex : X.ex = [] := by rfl) : DS X W (.Try body (h₀ :: hds) [] [] pos) (sTry tb hs t) :=
  ps_imp (ps_tryX (tb := fun W => LS X.K W t) hst hf hN hex tk hb hh) fun D σ H => le_try ht
theorem h_nil : DH X [] [] := .nil
theorem h_plain {x : Str} {u : FS} {b₀ : Stmt} {suite : List Stmt} {np pos' : Pos} (hm : X.mg x = some (.ref (cA X.K x))) (hsu : ∀ (a : Addr) (pn : List (Addr × Obj)), DSs (X.suite a pn) noW (b₀ :: suite) u) (r : DH X hds hs) (hg : Gl X x := by rfl) (hdb : (x == ("__debug__" : Str)) = false := by decide) :
    DH X (.ExceptHandler (some (.Name x np)) none (b₀ :: suite) pos' :: hds) ((x, none, u) :: hs) := .plain ⟨hg, hdb, .inl hm⟩ hsu r
theorem h_named (i : Nat) {x n : Str} {u : FS} {b₀ : Stmt} {suite : List Stmt} {np pos' : Pos} (hm : X.mg x = some (.ref (cA X.K x))) (hsu : ∀ (a : Addr) (pn : List (Addr × Obj)), DSs (X.suite a pn) noW (b₀ :: suite) u) (r : DH X hds hs) (hi : X.N[i]? = some n := by rfl) (hln : X.env.kindOf n = some .local := by rfl) (hg : Gl X x := by rfl) (hdb : (x == ("__debug__" : Str)) = false := by decide) :
    DH X (.ExceptHandler (some (.Name x np)) (some n) (b₀ :: suite) pos' :: hds) ((x, some i, u) :: hs) := .named ⟨hg, hdb, .inl hm⟩ hi hln hsu r
end
end FL
namespace FL
open PySem PySem.Spec PyProof.Rows L2
/-! ### a name of the module: a class -/
theorem d_gl {X : Cx} {W : WX} {x : Str} {pos : Pos} (hm : X.mg x = some (.ref (cA X.K x))) (hg : Gl X x := by rfl) (hd : (x == ("__debug__" : Str)) = false := by decide) : DE X W (.Name x pos) (eC (.gl x)) := d_glob hm (v := .ref (cA X.K x)) rfl (fun _ _ _ => .gl x) hg hd
/-! ### what is asked of exceptions -/
structure XcOk (K : PySem.W.Frag) (n : Str) : Prop where
  ga : PySem.W.findIn K (.ref (cA K n)) "__getattribute__" = some (some (.builtin "BaseException.__getattribute__"))
  gg : PySem.W.findIn K (.ref (cA K n)) "__getattr__" = some none
  exC : PySem.W.subIn K (.ref (cA K n)) (.type "BaseException") = some true
  hdC : PySem.W.hasDictIn K (cA K n) = true
  cl : PySem.W.findIn K (.ref (cA K n)) "__class__" = some (some (.builtin "object.__class__"))
  hm : PySem.W.mroIn K (cA K n) (.type "object") = some true
  isC : PySem.W.isClsIn K (cA K n) = true
  ty : PySem.W.typeIn K (.ref (cA K n)) = some (.type "type")
  hn : PySem.W.specialIn K (.builtin "object.__class__") "__get__" = some (some (.builtin "getset_descriptor.__get__"))
  htk : PySem.W.takesIn K (.builtin "object.__class__") = some true
/-- a tracked exception, in the heap -/
theorem exv_inst {X : Cx} {pins : List (Addr × Obj)} {σ : L2.St} {H : Hp} {s : Shared} {a C : Addr} {d : Option Addr} (I : Inv X pins σ H s) (h : H a = some (exv C d a)) (hd : d = none ∨ ∃ dd fs, d = some dd ∧ H dd = some (.xd fs)) :
    ∃ ox od, PySem.W.InstAt s.heap a ox C od ∧ ∀ dd fs f v, d = some dd → H dd = some (.xd fs) → fs.lookup f = some v → ∃ (o : Obj) (u : Value), od = some o ∧ PySem.W.lookIn f o = some (some u) ∧ RelV v u := by
  obtain ⟨oe, vs, ha, hz, hv⟩ := exv_at I.hok h
  rcases hd with rfl | ⟨dd, fs, rfl, hdd⟩
  · refine ⟨oe, none, ⟨ha, hz.1, by unfold PySem.W.notCls; rw [hv] <;> rfl, by rw [hz.2]; trivial⟩, fun dd fs f v e => by cases e⟩
  · have hx : ObjOk X.prog X.w H s.heap dd (.xd fs) := I.hok dd _ hdd
    obtain ⟨mA, hns, hr⟩ := hx
    obtain ⟨od, ho, hl⟩ := lookIn_ns hns
    refine ⟨oe, some od, ⟨ha, hz.1, by unfold PySem.W.notCls; rw [hv] <;> rfl, by rw [hz.2]; exact ho⟩, fun dd' fs' f v e1 e2 e3 => ?_⟩
    cases e1
    rw [hdd] at e2
    cases e2
    obtain ⟨u, hu, ru⟩ := RelO.some_of (v := v) (o := mA f) (by rw [← e3]; exact hr f)
    exact ⟨od, u, rfl, by rw [hl, hu], ru⟩
/-- e.f -/
def eXf (cs : List Str) (f : Str) (te : FE) : FE := fun ρ st => (te ρ st).bind fun x st1 => match x with
  | .ex1 n g y => bif cs.contains n && decide (g = f) then .ok y st1 else .bad
  | _ => .bad
def tXv (K : PySem.W.Frag) (f : Str) (te : TE) : TE := fun σ H Q => te σ H fun x H1 => ∃ a n dd v, x = .ref a ∧ H1 a = some (exv (cA K n) (some dd) a) ∧ H1 dd = some (.xd [(f, v)]) ∧ XcOk K n ∧ PySem.W.findIn K (.ref (cA K n)) f = some none ∧ Q v H1
theorem pe_xv {X : Cx} {e : Expr} {te : TE} {f : Str} {pos : Pos} (he : PE X e te) (hb : attributeBase e f X.env (eval e X.env) = eval e X.env := by rfl) : PE X (.Attribute e f pos) (tXv X.K f te) := by
  refine ⟨fun pins s σ H Q I h => ?_⟩
  refine attr_of hb (thn (he.run pins s σ H _ I h) fun u s1 hh => ?_)
  obtain ⟨x, H1, I1, rx, a, n, dd, v, rfl, ha, hd, T, hno, q⟩ := hh
  obtain rfl : u = Value.ref a := rx
  obtain ⟨ox, od, J, hl⟩ := exv_inst I1 ha (.inr ⟨dd, _, rfl, hd⟩)
  obtain ⟨o, u, rfl, hu, ru⟩ := hl dd _ f v rfl hd (by simp [List.lookup])
  exact HandSPX.exc_get I1.kIn J T.ga T.gg T.exC (PySem.W.findObj_own T.hdC hno rfl hu) (handed_of ru) ⟨v, H1, I1.tok _, ru, q⟩
theorem d_xf {X : Cx} {W : WX} {e : Expr} {te : FE} {pos : Pos} (cs : List Str) (f : Str) (hC : ∀ n ∈ cs, XcOk X.K n ∧ PySem.W.findIn X.K (.ref (cA X.K n)) f = some none) (he : DE X W e te) (hb : attributeBase e f X.env (eval e X.env) = eval e X.env := by rfl) : DE X W (.Attribute e f pos) (eXf cs f te) :=
  pe_imp (pe_xv he hb) fun σ H Q ⟨fr, ms, ρ, st, w, g⟩ => ⟨fr, ms, ρ, st, w, g.bind.mono fun x st1 fr1 H1 ms1 _ _ ⟨e1, s1, g1⟩ v rv => by
    cases x with
    | ex1 n g' y =>
      obtain ⟨hb, g2⟩ := (show G X.K W σ fr1 H1 ms1 (bif cs.contains n && decide (g' = f) then R.ok y st1 else .bad) (PV X.K Q) from g1).cond
      obtain ⟨h1, h2⟩ := Bool.and_eq_true_iff.mp hb
      have h2 := of_decide_eq_true h2
      subst h2
      cases rv with
      | ex1 h3 h4 r => exact ⟨_, n, _, _, rfl, h3, h4, (hC n (by simpa using h1)).1, (hC n (by simpa using h1)).2, g2.now s1 _ r⟩
    | _ => exact g1.elim⟩
/-! ### isinstance(e, C), isinstance(e, (C, ..)) of an exception -/
abbrev ClsB := Str → String → Option Bool
def isOne (tb : ClsT) (tB : ClsB) (n : Str) : Val → Option Bool
  | .gl m => tb n m
  | .ty T => tB n T
  | _ => none
def isAny (tb : ClsT) (tB : ClsB) (n : Str) : List Val → Option Bool
  | [] => some false
  | c :: r => (match isOne tb tB n c with
    | some true => some true
    | some false => isAny tb tB n r
    | none => none)
structure TbI (K : PySem.W.Frag) (tb : ClsT) (tB : ClsB) : Prop where
  own : ∀ n m b, tb n m = some b → XcOk K n ∧ PySem.W.kitOne K (.ref (cA K n)) (.ref (cA K m)) = some b
  blt : ∀ n T b, tB n T = some b → XcOk K n ∧ PySem.W.kitOne K (.ref (cA K n)) (.type T) = some b
def rIsX (K : PySem.W.Frag) : List V → Hp → VK → Prop := fun xs H Q => ∃ a n d c b, xs = [.ref a, c] ∧ H a = some (exv (cA K n) d a) ∧ (d = none ∨ ∃ dd fs, d = some dd ∧ H dd = some (.xd fs)) ∧ XcOk K n ∧
  ((∃ u, (∀ w, RelV c w → w = u) ∧ PySem.W.kitOne K (.ref (cA K n)) u = some b) ∨ ∃ p ws, c = .ref p ∧ SqT K H p ws ∧ ∀ vs, Vals ws vs → PySem.W.kitAny K (.ref (cA K n)) vs = some b) ∧ Q (.bl b) H
theorem call_isX {X : Cx} : CallR X (.builtin "isinstance") (rIsX X.K) := by
  intro pins s σ H xs us Q I r h
  obtain ⟨a, n, d, c, b, rfl, ha, hd, T, hk, q⟩ := h
  cases r with
  | cons rx rr =>
    cases rr with
    | cons rt rr =>
      cases rr
      cases rx
      obtain ⟨ox, od, J, _⟩ := exv_inst I ha hd
      have Z := PySem.W.kitx_exc (K := X.K) (x := a) (ox := ox) (C := cA X.K n) (od := od) T.isC T.ga T.gg T.exC T.cl T.hn T.htk T.hm
      rcases hk with ⟨u, hu, hk⟩ | ⟨p, ws, rfl, hs, hk⟩
      · have e := hu _ rt
        subst e
        exact PySem.W.kia_one Z I.kIn J hk (fun z => nomatch z) fun tk => ⟨.bl b, H, I.kept (t' := tk) fun _ _ z => z, rfl, q⟩
      · cases rt
        obtain ⟨its, rv, ⟨o, ho, hc, m, hd'⟩, hz⟩ := I.tuple hs
        obtain ⟨cls, dct, data, sl⟩ := o
        dsimp only at hc hd'
        subst hc hd'
        exact PySem.W.kia_tup Z I.kIn J ho (hk _ rv) (fun z => nomatch z) fun tk => ⟨.bl b, H, I.kept (t' := tk) fun _ _ z => z, rfl, q⟩
/-- the classes that are asked for -/
def isCs (tb : ClsT) (tB : ClsB) (n : Str) : Val → Option Bool
  | .tup cs => (match cs with
    | [] => none
    | cs => isAny tb tB n cs)
  | c => isOne tb tB n c
def fIsX (tb : ClsT) (tB : ClsB) : FL1 := fun xs st => match xs with
  | [x, c] => (match xvOf x with
    | some p => (match isCs tb tB p.1 c with
      | some b => some (.bl b, st)
      | none => none)
    | none => none)
  | _ => none
theorem isOne_at {K : PySem.W.Frag} {tb : ClsT} {tB : ClsB} (ht : TbI K tb tB) {n : Str} {c : Val} {b : Bool} {fr : Addr → Prop} {H : Hp} {ms : List Addr} {v : V} (h : isOne tb tB n c = some b) (r : VR K fr H ms v c) :
    XcOk K n ∧ ∃ u, (∀ w, RelV v w → w = u) ∧ PySem.W.kitOne K (.ref (cA K n)) u = some b := by
  unfold isOne at h
  split at h
  · cases r
    obtain ⟨h1, h2⟩ := ht.own _ _ _ h
    exact ⟨h1, _, fun w z => z, h2⟩
  · cases r
    obtain ⟨h1, h2⟩ := ht.blt _ _ _ h
    exact ⟨h1, _, fun w z => z, h2⟩
  · cases h
theorem isAny_at {K : PySem.W.Frag} {tb : ClsT} {tB : ClsB} (ht : TbI K tb tB) {n : Str} {fr : Addr → Prop} {H : Hp} {ms : List Addr} : ∀ {cs : List Val} {ws : List V} {b : Bool}, isAny tb tB n cs = some b → VRs K fr H ms ws cs → ∀ vs, Vals ws vs → PySem.W.kitAny K (.ref (cA K n)) vs = some b
  | [], _, _, h, .nil, _, z => by
    cases h
    cases z
    rfl
  | c :: cs, _, _, h, .cons a r, _, z => by
    cases z with
    | @cons _ z0 _ zs z1 z2 =>
    show (match PySem.W.kitOne K (.ref (cA K n)) z0 with
      | some true => some true
      | some false => PySem.W.kitAny K (.ref (cA K n)) zs
      | none => none) = some _
    unfold isAny at h
    split at h
    · next h1 =>
      cases h
      obtain ⟨_, u, hu, hk⟩ := isOne_at ht h1 a
      rw [hu _ z1, hk]
    · next h1 =>
      obtain ⟨_, u, hu, hk⟩ := isOne_at ht h1 a
      rw [hu _ z1, hk]
      exact isAny_at ht h r _ z2
    · cases h
theorem isAny_ok {K : PySem.W.Frag} {tb : ClsT} {tB : ClsB} (ht : TbI K tb tB) {n : Str} {c : Val} {cs : List Val} {b : Bool} (h : isAny tb tB n (c :: cs) = some b) {fr : Addr → Prop} {H : Hp} {ms : List Addr} {ws : List V} (r : VRs K fr H ms ws (c :: cs)) : XcOk K n := by
  cases r with
  | cons a r =>
    unfold isAny at h
    split at h
    · next h1 => exact (isOne_at ht h1 a).1
    · next h1 => exact (isOne_at ht h1 a).1
    · cases h
theorem isCs_eq {tb : ClsT} {tB : ClsB} {n : Str} {c : Val} {b : Bool} (h : isCs tb tB n c = some b) : (∃ c0 cs, c = .tup (c0 :: cs) ∧ isAny tb tB n (c0 :: cs) = some b) ∨ isOne tb tB n c = some b := by
  cases c with
  | tup cs =>
    cases cs with
    | nil => cases h
    | cons c0 cs => exact .inl ⟨c0, cs, rfl, h⟩
  | _ => exact .inr h
theorem rl_isX {K : PySem.W.Frag} {tb : ClsT} {tB : ClsB} (ht : TbI K tb tB) : RLF K (rIsX K) (fIsX tb tB) := fun fr H ms st xs sxs z st' Q s rx h q => by
  unfold fIsX at h
  split at h
  · next x c =>
    obtain ⟨v, u, rfl, rv, ru⟩ := vrs2 rx
    split at h
    · next p hp =>
      split at h
      · next b hb =>
        cases h
        have qq := q.now s (.bl _)
        have hx := xv_eq hp
        subst hx
        have hv : ∃ a d, v = .ref a ∧ H a = some (exv (cA K p.1) d a) ∧ (d = none ∨ ∃ dd fs, d = some dd ∧ H dd = some (.xd fs)) := by
          obtain ⟨n, o⟩ := p
          cases o with
          | none =>
            cases rv with
            | ex0 h => exact ⟨_, none, rfl, h, .inl rfl⟩
          | some p =>
            obtain ⟨f, y⟩ := p
            cases rv with
            | ex1 h1 h2 r => exact ⟨_, _, rfl, h1, .inr ⟨_, _, rfl, h2⟩⟩
        obtain ⟨a, d, rfl, ha, hd⟩ := hv
        rcases isCs_eq hb with ⟨c0, cs, rfl, hb⟩ | hb
        · obtain ⟨a2, ws, rfl, h1, h2⟩ := vr_tup ru
          exact ⟨a, p.1, d, _, b, rfl, ha, hd, isAny_ok ht hb h2, .inr ⟨a2, ws, rfl, h1, isAny_at ht hb h2⟩, qq⟩
        · obtain ⟨hc, hk⟩ := isOne_at ht hb ru
          exact ⟨a, p.1, d, _, b, rfl, ha, hd, hc, .inl hk, qq⟩
      · cases h
    · cases h
  · cases h
/-! ### the tables -/
def tabO (l : List (Str × Str × Bool)) : ClsT := fun n m => (l.find? fun e => decide (e.1 = n) && decide (e.2.1 = m)).map (·.2.2)
def tabB (l : List (Str × String × Bool)) : ClsB := fun n m => (l.find? fun e => decide (e.1 = n) && decide (e.2.1 = m)).map (·.2.2)
theorem tabO_at {l : List (Str × Str × Bool)} {n m : Str} {b : Bool} (h : tabO l n m = some b) : (n, m, b) ∈ l := by
  unfold tabO at h
  obtain ⟨e, he, hb⟩ := Option.map_eq_some_iff.mp h
  have h1 := List.mem_of_find?_eq_some he
  have h2 := List.find?_some he
  simp at h2
  obtain ⟨h3, h4⟩ := h2
  subst h3 h4 hb
  exact h1
theorem tabB_at {l : List (Str × String × Bool)} {n : Str} {m : String} {b : Bool} (h : tabB l n m = some b) : (n, m, b) ∈ l := by
  unfold tabB at h
  obtain ⟨e, he, hb⟩ := Option.map_eq_some_iff.mp h
  have h1 := List.mem_of_find?_eq_some he
  have h2 := List.find?_some he
  simp at h2
  obtain ⟨h3, h4⟩ := h2
  subst h3 h4 hb
  exact h1
theorem kit_blt {K : PySem.W.Frag} {C : Addr} {T : String} {b : Bool} (h1 : PySem.W.kitMeta T = true) (h2 : PySem.W.subIn K (.ref C) (.type T) = some b) : PySem.W.kitOne K (.ref C) (.type T) = some b := by
  show (if (Value.ref C == Value.type T) = true then some true else if PySem.W.kitMeta T = true then PySem.W.subIn K (.ref C) (.type T) else none) = some b
  rw [if_neg (by simp), if_pos h1]
  exact h2
theorem kit_own {K : PySem.W.Frag} {C D : Addr} {b : Bool} (h0 : PySem.W.subIn K (.ref D) (.ref D) = some true) (h1 : PySem.W.isClsIn K D = true) (h2 : PySem.W.typeIn K (.ref D) = some (.type "type")) (h3 : PySem.W.subIn K (.ref C) (.ref D) = some b) : PySem.W.kitOne K (.ref C) (.ref D) = some b := by
  have e2 : ((PySem.W.clsIn K D).isSome && PySem.W.typeIn K (.ref D) == some (.type "type")) = true := by
    have h1' : (PySem.W.clsIn K D).isSome = true := h1
    rw [h1', h2] <;> rfl
  show (if (Value.ref C == Value.ref D) = true then some true else if ((PySem.W.clsIn K D).isSome && PySem.W.typeIn K (.ref D) == some (.type "type")) = true then PySem.W.subIn K (.ref C) (.ref D) else none) = some b
  by_cases e : C = D
  · subst e
    rw [if_pos (by simp)]
    rw [h0] at h3
    exact h3
  · rw [if_neg (by simpa using e), if_pos e2]
    exact h3
theorem exm_own {K : PySem.W.Frag} {cls : Value} {D : Addr} {b : Bool} (h0 : PySem.W.subIn K (.ref D) (.type "BaseException") = some true) (h1 : PySem.W.isClsIn K D = true) (h2 : PySem.W.typeIn K (.ref D) = some (.type "type")) (h3 : PySem.W.subIn K cls (.ref D) = some b) : PySem.W.exmOne K cls (.ref D) = some b := by
  have e1 : (PySem.W.subIn K (.ref D) (.type "BaseException") == some true) = true := by rw [h0] <;> rfl
  have e2 : ((PySem.W.clsIn K D).isSome && PySem.W.typeIn K (.ref D) == some (.type "type")) = true := by
    have h1' : (PySem.W.clsIn K D).isSome = true := h1
    rw [h1', h2] <;> rfl
  show (if (PySem.W.subIn K (.ref D) (.type "BaseException") == some true) = true then (if ((PySem.W.clsIn K D).isSome && PySem.W.typeIn K (.ref D) == some (.type "type")) = true then PySem.W.subIn K cls (.ref D) else none) else none) = some b
  rw [if_pos e1, if_pos e2]
  exact h3
/-! ### the bases -/
theorem bx_ValueError : BaseX "ValueError" "ValueError.__new__" "ValueError.__init__" [.type "ValueError", .type "Exception", .type "BaseException", .type "object"] := ⟨F.excBase_ValueError, by kernel_rfl, F.store_ValueError.passes, by decide +kernel, by decide +kernel, by decide +kernel⟩
theorem bx_LookupError : BaseX "LookupError" "LookupError.__new__" "LookupError.__init__" [.type "LookupError", .type "Exception", .type "BaseException", .type "object"] := ⟨F.excBase_LookupError, by kernel_rfl, F.store_LookupError.passes, by decide +kernel, by decide +kernel, by decide +kernel⟩
theorem bx_ZeroDivisionError : BaseX "ZeroDivisionError" "ZeroDivisionError.__new__" "ZeroDivisionError.__init__" [.type "ZeroDivisionError", .type "ArithmeticError", .type "Exception", .type "BaseException", .type "object"] := ⟨F.excBase_ZeroDivisionError, by kernel_rfl, F.store_ZeroDivisionError.passes, by decide +kernel, by decide +kernel, by decide +kernel⟩
theorem bx_IndexError : BaseX "IndexError" "IndexError.__new__" "IndexError.__init__" [.type "IndexError", .type "LookupError", .type "Exception", .type "BaseException", .type "object"] := ⟨F.excBase_IndexError, by kernel_rfl, F.store_IndexError.passes, by decide +kernel, by decide +kernel, by decide +kernel⟩
theorem bx_OverflowError : BaseX "OverflowError" "OverflowError.__new__" "OverflowError.__init__" [.type "OverflowError", .type "ArithmeticError", .type "Exception", .type "BaseException", .type "object"] := ⟨F.excBase_OverflowError, by kernel_rfl, F.store_OverflowError.passes, by decide +kernel, by decide +kernel, by decide +kernel⟩
/-- the rule for a def, its sizes told -/
theorem okN {P : Program} {w : World} {K : PySem.W.Frag} {mg : Str → Option Value} {base : Heap} {x qual : Str} {params : Arguments} {body : List Stmt} {scope : Scope} {dvs : List V} {kws : List (Str × V)} {f : Addr} {fd : FuncData} {N ps : List Str} {lv k n : Nat} {t : FS} {z : Bool} (F : FunD K x qual params body scope dvs kws f fd) (S : FnScope N ps scope)
    (hk : k = ps.length) (hn : n = N.length) (walk : ∀ (cdv : Value) (A : Around) (outer : List PySem.Env) (s : Shared) (H : Hp) (E : XK), Room lv (cxOf (L2.CX P w) P w K mg base N qual scope f cdv A outer s H E).A → (cxOf (L2.CX P w) P w K mg base N qual scope f cdv A outer s H E).A.guards = some [] →
      ∀ W, Takes (cxOf (L2.CX P w) P w K mg base N qual scope f cdv A outer s H E) W → DSs (cxOf (L2.CX P w) P w K mg base N qual scope f cdv A outer s H E) W body t) : FnF P w K mg base (lv + 1) f fd ps (fnF z k n t) := by
  subst hk hn
  exact okF z F S walk
/-- {} that is only read -/
def eDictZ : FE := fun _ st => .ok (.rd [] []) st
theorem d_dictZ {X : Cx} {W : WX} {pos : Pos} : DE X W (.Dict [] [] pos) eDictZ := pe_imp pe_dnewK fun σ H Q ⟨fr, ms, ρ, st, w, g⟩ => fun p n => QV.newd (c := false) (es := []) (ws := []) (QV.of g) w.sr .nil n
/-- a name of the module leads there -/
theorem cA_of {K : PySem.W.Frag} {n : Str} {C : Addr} (h : PySem.W.nsIn K mainGlobals n = some (some (.ref C))) : cA K n = C := by
  unfold cA
  rw [h]
end FL
/-! rules for readings: loops, comprehensions, ends of defs; no program in sight -/
namespace FL
open PySem PySem.Spec PyProof.Rows L2
/-- what a turn of a loop must bring: J goes on, P stands at an end -/
def S.turnP (r : S) (J : Env → Store → Prop) (P : S → Prop) : Prop := match r with
  | .nx ρ st => J ρ st
  | .ct ρ st => J ρ st
  | .bk ρ st => P (.nx ρ st)
  | .bad => False
  | r => P r
theorem S.turn_of {r : S} {J : Env → Store → Prop} {P : S → Prop} {f : Env → Store → S} (h : r.turnP J P) (hf : ∀ ρ st, J ρ st → P (f ρ st)) : P (r.turn f) := by
  cases r <;> first
    | exact hf _ _ h
    | exact h
    | exact h.elim
theorem fl_inv {cur : Its} {g : FG} {b : FS} {xs : List Val} {P : S → Prop} (J : Nat → Env → Store → Prop) (hc : ∀ i ρ st, J i ρ st → cur st = some xs)
    (hs : ∀ i x ρ st, xs[i]? = some x → J i ρ st → ∃ ρ1 st1, g x ρ st = some (ρ1, st1) ∧ (b ρ1 st1).turnP (J (i + 1)) P) (he : ∀ ρ st, J xs.length ρ st → P (.nx ρ st)) :
    ∀ m i ρ st, xs.length < i + m → i ≤ xs.length → J i ρ st → P (fl cur g b m i ρ st)
  | 0, i, ρ, st, h1, h2, _ => by omega
  | m + 1, i, ρ, st, h1, h2, h3 => by
    unfold fl
    rw [hc i ρ st h3]
    dsimp only
    cases e : xs[i]? with
    | none =>
      have := List.getElem?_eq_none_iff.mp e
      have e2 : i = xs.length := by omega
      subst e2
      exact he ρ st h3
    | some x =>
      obtain ⟨ρ1, st1, e1, h4⟩ := hs i x ρ st e h3
      dsimp only
      rw [e1]
      dsimp only
      have := (List.getElem?_eq_some_iff.mp e).1
      exact S.turn_of h4 fun ρ2 st2 h5 => fl_inv J hc hs he m (i + 1) ρ2 st2 (by omega) (by omega) h5
/-- a for: by what holds between two turns -/
theorem for_inv {vz : List Nat} {wi : FI} {g : FG} {b : FS} {ρ : Env} {st st1 : Store} {cur : Its} {P : S → Prop} (xs : List Val) (J : Nat → Env → Store → Prop) (hw : wi ρ st = .ok cur st1) (hl : xs.length < 1000000) (h0 : J 0 (wipeF ρ vz) st1) (hc : ∀ i ρ st, J i ρ st → cur st = some xs)
    (hs : ∀ i x ρ st, xs[i]? = some x → J i ρ st → ∃ ρ1 st1, g x ρ st = some (ρ1, st1) ∧ (b ρ1 st1).turnP (J (i + 1)) P) (he : ∀ ρ st, J xs.length ρ st → P (.nx ρ st)) : P (sFor vz wi g b ρ st) := by
  unfold sFor
  rw [hw]
  exact fl_inv J hc hs he bigN 0 _ _ (by show xs.length < 0 + 1000000; omega) (Nat.zero_le _) h0
/-- .. that comes to its end -/
theorem for_nx {vz : List Nat} {wi : FI} {g : FG} {b : FS} {ρ : Env} {st st1 : Store} {cur : Its} (xs : List Val) (J : Nat → Env → Store → Prop) (hw : wi ρ st = .ok cur st1) (hl : xs.length < 1000000) (h0 : J 0 (wipeF ρ vz) st1) (hc : ∀ i ρ st, J i ρ st → cur st = some xs)
    (hs : ∀ i x ρ st, xs[i]? = some x → J i ρ st → ∃ ρ1 st1, g x ρ st = some (ρ1, st1) ∧ (b ρ1 st1).turnP (J (i + 1)) fun _ => False) : ∃ ρ' st', sFor vz wi g b ρ st = .nx ρ' st' ∧ J xs.length ρ' st' :=
  for_inv (P := fun r => ∃ ρ' st', r = .nx ρ' st' ∧ J xs.length ρ' st') xs J hw hl h0 hc (fun i x ρ st h1 h2 => let ⟨ρ1, st1, e, q⟩ := hs i x ρ st h1 h2; ⟨ρ1, st1, e, by
    cases hb : b ρ1 st1 <;> rw [hb] at q <;> first | exact q | exact q.elim⟩) fun ρ st h => ⟨ρ, st, rfl, h⟩
theorem wl_inv {c : FT} {b : FS} {P : S → Prop} (J : Nat → Env → Store → Prop)
    (hs : ∀ n ρ st, J n ρ st → ∃ t st1, c ρ st = .ok t st1 ∧ (bif t then (b ρ st1).turnP (fun ρ2 st2 => ∃ k, k < n ∧ J k ρ2 st2) P else P (.nx ρ st1))) : ∀ m n ρ st, n < m → J n ρ st → P (wl c b m ρ st)
  | 0, n, ρ, st, h1, _ => by omega
  | m + 1, n, ρ, st, h1, h2 => by
    unfold wl
    obtain ⟨t, st1, e, q⟩ := hs n ρ st h2
    rw [e]
    dsimp only [R.to]
    cases t with
    | true => exact S.turn_of q fun ρ2 st2 ⟨k, hk, h5⟩ => wl_inv J hs m k ρ2 st2 (by omega) h5
    | false => exact q
/-- a while: J n, n a number that falls -/
theorem while_inv {vz : List Nat} {c : FT} {b : FS} {ρ : Env} {st : Store} {P : S → Prop} (J : Nat → Env → Store → Prop) {n : Nat} (hn : n < 1000000) (h0 : J n (wipeF ρ vz) st)
    (hs : ∀ n ρ st, J n ρ st → ∃ t st1, c ρ st = .ok t st1 ∧ (bif t then (b ρ st1).turnP (fun ρ2 st2 => ∃ k, k < n ∧ J k ρ2 st2) P else P (.nx ρ st1))) : P (sWhile vz c b ρ st) := wl_inv J hs bigN n _ _ hn h0
theorem lcl_inv {cur : Its} {g : FG} {tt : FT} {te : FE} {ρ : Env} {xs : List Val} (J : Nat → List Val → Store → Prop) (hz : xs.length ≤ sizeLine) (hc : ∀ i acc st, J i acc st → cur st = some xs)
    (hs : ∀ i x acc st, xs[i]? = some x → J i acc st → ∃ o st1, lc1 g tt te x ρ st = some (o, st1) ∧ J (i + 1) (acc ++ o.toList) st1) :
    ∀ m i acc st, xs.length < i + m → i ≤ xs.length → acc.length ≤ i → J i acc st → ∃ acc' st', lcl cur g tt te ρ m i acc st = some (acc', st') ∧ J xs.length acc' st'
  | 0, i, acc, st, h1, h2, _, _ => by omega
  | m + 1, i, acc, st, h1, h2, ha, h3 => by
    unfold lcl
    rw [hc i acc st h3]
    dsimp only
    cases e : xs[i]? with
    | none =>
      have := List.getElem?_eq_none_iff.mp e
      have e2 : i = xs.length := by omega
      subst e2
      exact ⟨acc, st, rfl, h3⟩
    | some x =>
      obtain ⟨o, st1, e1, h4⟩ := hs i x acc st e h3
      have hi := (List.getElem?_eq_some_iff.mp e).1
      dsimp only
      rw [e1]
      cases o with
      | none =>
        rw [show acc ++ (none : Option Val).toList = acc from List.append_nil _] at h4
        exact lcl_inv J hz hc hs m (i + 1) acc st1 (by omega) (by omega) (by omega) h4
      | some y =>
        dsimp only
        rw [show Nat.blt acc.length sizeLine = true from Nat.ble_eq_true_of_le (show acc.length + 1 ≤ sizeLine by omega)]
        exact lcl_inv J hz hc hs m (i + 1) (acc ++ [y]) st1 (by omega) (by omega) (by rw [List.length_append]; simp; omega) h4
/-- a comprehension -/
theorem lc_inv {c : Bool} {wi : FI} {g : FG} {tt : FT} {te : FE} {vs : List Nat} {ρ : Env} {st st1 : Store} {cur : Its} (xs : List Val) (J : Nat → List Val → Store → Prop) (hw : wi ρ st = .ok cur st1) (hz : xs.length ≤ 10000) (h0 : J 0 [] st1) (hc : ∀ i acc st, J i acc st → cur st = some xs)
    (hs : ∀ i x acc st, xs[i]? = some x → J i acc st → ∃ o st1, lc1 g tt te x (wipeF ρ vs) st = some (o, st1) ∧ J (i + 1) (acc ++ o.toList) st1) : ∃ acc st2, eLc c wi g tt te vs ρ st = .ok (newL c acc st2).1 (newL c acc st2).2 ∧ J xs.length acc st2 := by
  obtain ⟨acc, st2, e, h⟩ := lcl_inv (ρ := wipeF ρ vs) (g := g) (tt := tt) (te := te) J (Nat.le_trans hz (by decide)) hc hs bigN 0 [] st1 (by show xs.length < 0 + 1000000; omega) (Nat.zero_le _) (Nat.le_refl _) h0
  refine ⟨acc, st2, ?_, h⟩
  unfold eLc
  rw [hw]
  dsimp only [R.bind]
  rw [e]
theorem lcl_map {xs : List Val} {g : FG} {tt : FT} {te : FE} {ρ : Env} {st : Store} (f : Val → Option Val) (hz : xs.length ≤ sizeLine) (hs : ∀ x ∈ xs, lc1 g tt te x ρ st = some (f x, st)) {cur : Its} (hc : cur st = some xs) :
    ∀ m i acc, xs.length < i + m → i ≤ xs.length → acc.length ≤ i → lcl cur g tt te ρ m i acc st = some (acc ++ (xs.drop i).filterMap f, st)
  | 0, i, acc, h1, h2, _ => by omega
  | m + 1, i, acc, h1, h2, ha => by
    unfold lcl
    rw [hc]
    dsimp only
    cases e : xs[i]? with
    | none =>
      have := List.getElem?_eq_none_iff.mp e
      rw [List.drop_of_length_le (by omega)]
      simp
    | some x =>
      have hi := (List.getElem?_eq_some_iff.mp e)
      obtain ⟨hi, ex⟩ := hi
      dsimp only
      rw [hs x (List.mem_of_getElem? e)]
      rw [List.drop_eq_getElem_cons hi, ex]
      cases h : f x with
      | none =>
        dsimp only
        rw [lcl_map f hz hs hc m (i + 1) acc (by omega) (by omega) (by omega), List.filterMap_cons_none h]
      | some y =>
        dsimp only
        rw [show Nat.blt acc.length sizeLine = true from Nat.ble_eq_true_of_le (show acc.length + 1 ≤ sizeLine by omega)]
        dsimp only [cond_true]
        rw [lcl_map f hz hs hc m (i + 1) (acc ++ [y]) (by omega) (by omega) (by rw [List.length_append]; simp; omega), List.filterMap_cons_some h]
        simp
/-- a comprehension that changes nothing: an item of each item, or none -/
theorem lc_fm {c : Bool} {wi : FI} {g : FG} {tt : FT} {te : FE} {vs : List Nat} {ρ : Env} {st st1 : Store} {cur : Its} (xs : List Val) (f : Val → Option Val) (hw : wi ρ st = .ok cur st1) (hc : cur st1 = some xs) (hz : xs.length ≤ 10000)
    (hs : ∀ x ∈ xs, lc1 g tt te x (wipeF ρ vs) st1 = some (f x, st1)) : eLc c wi g tt te vs ρ st = .ok (newL c (xs.filterMap f) st1).1 (newL c (xs.filterMap f) st1).2 := by
  unfold eLc
  rw [hw]
  dsimp only [R.bind]
  rw [lcl_map f (Nat.le_trans hz (by decide)) hs hc bigN 0 [] (by show xs.length < 0 + 1000000; omega) (Nat.zero_le _) (Nat.le_refl _)]
  simp
/-- .. of each -/
theorem lc_map {c : Bool} {wi : FI} {g : FG} {tt : FT} {te : FE} {vs : List Nat} {ρ : Env} {st st1 : Store} {cur : Its} (xs : List Val) (f : Val → Val) (hw : wi ρ st = .ok cur st1) (hc : cur st1 = some xs) (hz : xs.length ≤ 10000)
    (hs : ∀ x ∈ xs, lc1 g tt te x (wipeF ρ vs) st1 = some (some (f x), st1)) : eLc c wi g tt te vs ρ st = .ok (newL c (xs.map f) st1).1 (newL c (xs.map f) st1).2 := by
  rw [lc_fm xs (fun x => some (f x)) hw hc hz hs]
  simp
end FL
/-! the readings, step by step: equations for `simp only [seval]` -/
namespace FL
open PySem PySem.Spec PyProof.Rows L2
/-- an equation that is no unfolding to the kernel's eyes -/
theorem nd {α : Sort u} {a b : α} (h : a = b) : a = b := h
section
variable {α β : Type} {ρ ρ' : Env} {st st' st1 : Store} {x y z : Val} {n m i : Nat}
/-! ends -/
theorem cond_t {u v : α} : cond true u v = u := nd rfl
theorem cond_f {u v : α} : cond false u v = v := nd rfl
theorem dec_t {d : Decidable True} : @decide True d = true := by cases d <;> first | rfl | (exact absurd trivial ‹_›)
theorem dec_f {d : Decidable False} : @decide False d = false := by cases d <;> first | rfl | (exact False.elim ‹_›)
theorem not_t : (!true) = false := nd rfl
theorem not_f : (!false) = true := nd rfl
theorem and_t {b : Bool} : (true && b) = b := nd rfl
theorem and_f {b : Bool} : (false && b) = false := nd rfl
theorem or_t {b : Bool} : (true || b) = true := nd rfl
theorem or_f {b : Bool} : (false || b) = b := nd rfl
theorem and_t' {b : Bool} : (b && true) = b := by cases b <;> rfl
theorem or_f' {b : Bool} : (b || false) = b := by cases b <;> rfl
theorem R.bind_ok {a : α} {f : α → Store → R β} : (R.ok a st).bind f = f a st := nd rfl
theorem R.bind_exc {c : XV} {f : α → Store → R β} : (R.exc c st : R α).bind f = .exc c st := nd rfl
theorem R.to_ok {a : α} {f : α → Store → S} : (R.ok a st).to ρ f = f a st := nd rfl
theorem R.to_exc {c : XV} {f : α → Store → S} : (R.exc c st : R α).to ρ f = .ex c ρ st := nd rfl
theorem R.opt_some {p : α × Store} : R.opt (some p) = .ok p.1 p.2 := nd rfl
theorem then_nx {f : Env → Store → S} : (S.nx ρ st).then f = f ρ st := nd rfl
theorem then_rt {f : Env → Store → S} : (S.rt x st).then f = .rt x st := nd rfl
theorem then_bk {f : Env → Store → S} : (S.bk ρ st).then f = .bk ρ st := nd rfl
theorem then_ct {f : Env → Store → S} : (S.ct ρ st).then f = .ct ρ st := nd rfl
theorem then_ex {c : XV} {f : Env → Store → S} : (S.ex c ρ st).then f = .ex c ρ st := nd rfl
theorem turnP_nx {J : Env → Store → Prop} {P : S → Prop} : (S.nx ρ st).turnP J P = J ρ st := nd rfl
theorem turnP_ct {J : Env → Store → Prop} {P : S → Prop} : (S.ct ρ st).turnP J P = J ρ st := nd rfl
theorem turnP_bk {J : Env → Store → Prop} {P : S → Prop} : (S.bk ρ st).turnP J P = P (.nx ρ st) := nd rfl
theorem turnP_rt {J : Env → Store → Prop} {P : S → Prop} : (S.rt x st).turnP J P = P (.rt x st) := nd rfl
theorem turnP_ex {c : XV} {J : Env → Store → Prop} {P : S → Prop} : (S.ex c ρ st).turnP J P = P (.ex c ρ st) := nd rfl
theorem fst_eq {a : α} {b : β} : (a, b).1 = a := nd rfl
theorem snd_eq {a : α} {b : β} : (a, b).2 = b := nd rfl
/-! names -/
theorem set_z {a b : α} {l : List α} : (a :: l).set 0 b = b :: l := nd rfl
theorem set_s {a b : α} {l : List α} : (a :: l).set (n + 1) b = a :: l.set n b := nd rfl
theorem eV_z {l : Env} : eV 0 (some x :: l) st = .ok x st := nd rfl
theorem eV_s {l : Env} {a : Option Val} : eV (n + 1) (a :: l) st = eV n l st := nd rfl
theorem eC_eq : eC x ρ st = .ok x st := nd rfl
theorem wipeF_nil : wipeF ρ [] = ρ := nd rfl
theorem wipeF_cons {v : Nat} {vs : List Nat} : wipeF ρ (v :: vs) = (wipeF ρ vs).set v none := nd rfl
theorem startF_nil : startF n [] = List.replicate n none := nd rfl
theorem startF_cons {xs : List Val} : startF (n + 1) (x :: xs) = some x :: startF n xs := by
  unfold startF
  rw [List.map_cons, List.length_cons, Nat.add_sub_add_right]
  rfl
theorem rep_z {a : α} : List.replicate 0 a = [] := nd rfl
theorem rep_s {a : α} : List.replicate (n + 1) a = a :: List.replicate n a := nd rfl
theorem lenB_nil : (([] : List α).length == 0) = true := nd rfl
theorem lenB_cons {a : α} {l : List α} : ((a :: l).length == n + 1) = (l.length == n) := by
  rw [List.length_cons]
  rw [Bool.eq_iff_iff]
  simp
theorem fnF_eq {b : Bool} {k : Nat} {t : FS} {xs : List Val} (h : xs.length = k) : fnF b k n t xs st = retF b st (t (startF n xs) st) := by unfold fnF; rw [show (xs.length == k) = true by simp [h]]; rfl
theorem retF_rt : retF false st (.rt x st1) = .ok x st1 := nd rfl
theorem retF_nx : retF false st (.nx ρ st1) = .ok .non st1 := nd rfl
theorem retF_ex {c : XV} : retF false st (.ex c ρ st1) = .exc c st1 := nd rfl
theorem retF_rtz : retF true st (.rt x st1) = .ok (retV st x st1).1 (retV st x st1).2 := nd rfl
theorem retF_nxz : retF true st (.nx ρ st1) = .ok (retV st .non st1).1 (retV st .non st1).2 := nd rfl
theorem retF_exz {c : XV} : retF true st (.ex c ρ st1) = .exc (retX st c st1).1 (retX st c st1).2 := nd rfl
end
section
variable {ρ : Env} {st st' st1 : Store} {x y z : Val} {n m i j k : Nat} {t u v : FS} {te ta tb tc : FE} {c c' : FT} {f f' : F2} {a a' : FA}
/-! statements -/
theorem sNext_eq  : sNext ρ st = .nx ρ st := nd rfl
theorem sBrk_eq  : sBrk ρ st = .bk ρ st := nd rfl
theorem sCnt_eq  : sCnt ρ st = .ct ρ st := nd rfl
theorem sSeq_eq  : sSeq t u ρ st = (t ρ st).then u := nd rfl
def kDrop (ρ : Env) : Val → Store → S := fun x s => .nx ρ s
theorem kDrop_eq (ρ : Env) (x : Val) (s : Store) : kDrop ρ x s = .nx ρ s := nd rfl
theorem sDrop_eq  : sDrop te ρ st = (te ρ st).to ρ (kDrop ρ) := nd rfl
def kRet  : Val → Store → S := fun x s => .rt x s
theorem kRet_eq  (x : Val) (s : Store) : kRet  x s = .rt x s := nd rfl
theorem sRet_eq  : sRet te ρ st = (te ρ st).to ρ kRet := nd rfl
theorem sRetN_eq  : sRetN ρ st = .rt .non st := nd rfl
def kIf (t u : FS) (ρ : Env) : Bool → Store → S := fun b s => bif b then t ρ s else u ρ s
theorem kIf_t (t u : FS) (ρ : Env) (s : Store) : kIf t u ρ true s = t ρ s := nd rfl
theorem kIf_f (t u : FS) (ρ : Env) (s : Store) : kIf t u ρ false s = u ρ s := nd rfl
theorem sIf_eq  : sIf c t u ρ st = (c ρ st).to ρ (kIf t u ρ) := nd rfl
def kSet (i : Nat) (ρ : Env) : Val → Store → S := fun x s => .nx (ρ.set i (some x)) s
theorem kSet_eq (i : Nat) (ρ : Env) (x : Val) (s : Store) : kSet i ρ x s = .nx (ρ.set i (some x)) s := nd rfl
theorem sSet_eq  : sSet i te ρ st = (te ρ st).to ρ (kSet i ρ) := nd rfl
def kPar (i j : Nat) (ρ : Env) : List Val → Store → S := fun xs s => match xs with
  | [x, y] => .nx ((ρ.set i (some x)).set j (some y)) s
  | _ => .bad
theorem kPar_eq (i j : Nat) (ρ : Env) (x y : Val) (s : Store) : kPar i j ρ [x, y] s = .nx ((ρ.set i (some x)).set j (some y)) s := nd rfl
theorem sPar_eq : sPar i j a ρ st = (a ρ st).to ρ (kPar i j ρ) := nd rfl
def kPar3 (i j k : Nat) (ρ : Env) : List Val → Store → S := fun xs s => match xs with
  | [x, y, z] => .nx (((ρ.set i (some x)).set j (some y)).set k (some z)) s
  | _ => .bad
theorem kPar3_eq (i j k : Nat) (ρ : Env) (x y z : Val) (s : Store) : kPar3 i j k ρ [x, y, z] s = .nx (((ρ.set i (some x)).set j (some y)).set k (some z)) s := nd rfl
theorem sPar3_eq : sPar3 i j k a ρ st = (a ρ st).to ρ (kPar3 i j k ρ) := nd rfl
/-- what a target's storing comes to -/
def ofG (o : Option (Env × Store)) : S := match o with
  | some (ρ', st') => .nx ρ' st'
  | none => .bad
theorem ofG_some {p : Env × Store} : ofG (some p) = .nx p.1 p.2 := nd rfl
def kAsg (g : FG) (ρ : Env) : Val → Store → S := fun x s => ofG (g x ρ s)
theorem kAsg_eq (g : FG) (ρ : Env) (x : Val) (s : Store) : kAsg g ρ x s = ofG (g x ρ s) := nd rfl
theorem sAsg_eq {g : FG} : sAsg te g ρ st = (te ρ st).to ρ (kAsg g ρ) := nd rfl
def kUnp (n : Nat) (g : FGs) (ρ : Env) : List Val → Store → S := fun xs s => bif xs.length == n then ofG (g xs ρ s) else .bad
theorem kUnp_eq (n : Nat) (g : FGs) (ρ : Env) (xs : List Val) (s : Store) (h : xs.length = n) : kUnp n g ρ xs s = ofG (g xs ρ s) := by unfold kUnp; rw [show (xs.length == n) = true by simp [h]]; rfl
theorem sUnp_eq {g : FGs} : sUnp n a g ρ st = (a ρ st).to ρ (kUnp n g ρ) := nd rfl
theorem sWipe_eq {vs : List Nat} : sWipe vs t ρ st = (t ρ st).wiped vs := nd rfl
theorem wiped_nx {vs : List Nat} : (S.nx ρ st).wiped vs = .nx (wipeF ρ vs) st := nd rfl
theorem wiped_bk {vs : List Nat} : (S.bk ρ st).wiped vs = .bk (wipeF ρ vs) st := nd rfl
theorem wiped_ct {vs : List Nat} : (S.ct ρ st).wiped vs = .ct (wipeF ρ vs) st := nd rfl
theorem wiped_rt {vs : List Nat} : (S.rt x st).wiped vs = .rt x st := nd rfl
theorem wiped_ex {c : XV} {vs : List Nat} : (S.ex c ρ st).wiped vs = .ex c ρ st := nd rfl
def kFor (g : FG) (t : FS) (ρ : Env) : Its → Store → S := fun cur s => fl cur g t bigN 0 ρ s
theorem kFor_eq (g : FG) (t : FS) (ρ : Env) (cur : Its) (s : Store) : kFor g t ρ cur s = fl cur g t bigN 0 ρ s := nd rfl
theorem sFor_eq {vz : List Nat} {wi : FI} {g : FG} : sFor vz wi g t ρ st = (wi ρ st).to ρ (kFor g t (wipeF ρ vz)) := nd rfl
theorem sWhile_eq {vz : List Nat} : sWhile vz c t ρ st = wl c t bigN (wipeF ρ vz) st := nd rfl
def kRaise (ρ : Env) : Val → Store → S := fun x s => match xvOf x with
  | some c => .ex c ρ s
  | none => .bad
theorem kRaise_1 (ρ : Env) (n f : Str) (x : Val) (s : Store) : kRaise ρ (.ex1 n f x) s = .ex (n, some (f, x)) ρ s := nd rfl
theorem kRaise_0 (ρ : Env) (n : Str) (s : Store) : kRaise ρ (.ex0 n) s = .ex (n, none) ρ s := nd rfl
theorem sRaise_eq : sRaise te ρ st = (te ρ st).to ρ (kRaise ρ) := nd rfl
/-- behind a try's body -/
def S.caught (r : S) (tb : ClsT) (hs : List (Str × Option Nat × FS)) : S := match r with
  | .ex x ρ1 st1 => hnd tb x ρ1 st1 hs
  | r => r
theorem sTry_eq {tb : ClsT} {hs : List (Str × Option Nat × FS)} : sTry tb hs t ρ st = (t ρ st).caught tb hs := nd rfl
theorem caught_nx {tb : ClsT} {hs : List (Str × Option Nat × FS)} : (S.nx ρ st).caught tb hs = .nx ρ st := nd rfl
theorem caught_rt {tb : ClsT} {hs : List (Str × Option Nat × FS)} : (S.rt x st).caught tb hs = .rt x st := nd rfl
theorem caught_ex {c : XV} {tb : ClsT} {hs : List (Str × Option Nat × FS)} : (S.ex c ρ st).caught tb hs = hnd tb c ρ st hs := nd rfl
/-! targets -/
/-- a target behind another one -/
def thenG (o : Option (Env × Store)) (gs : FGs) (r : List Val) : Option (Env × Store) := match o with
  | some (ρ1, st1) => gs r ρ1 st1
  | none => none
theorem thenG_some {p : Env × Store} {gs : FGs} {r : List Val} : thenG (some p) gs r = gs r p.1 p.2 := nd rfl
theorem gN_eq : gN i x ρ st = some (ρ.set i (some x), st) := nd rfl
theorem gNil_eq : gNil [] ρ st = some (ρ, st) := nd rfl
theorem gCons_eq {g : FG} {gs : FGs} {r : List Val} : gCons g gs (x :: r) ρ st = thenG (g x ρ st) gs r := nd rfl
theorem gTup_eq {gs : FGs} {xs : List Val} (h : xs.length = n) : gTup n gs (.tup xs) ρ st = gs xs ρ st := by unfold gTup; dsimp only; rw [show (xs.length == n) = true by simp [h]]; rfl
/-- o[i] = x -/
def putAt1 (st : Store) (p : Nat) (i x : Val) (ρ : Env) : Option (Env × Store) := match st[p]? with
  | some (.lst xs) => (match i with
    | .int i => (match ixN xs.length i with
      | some j => some (ρ, st.set p (.lst (xs.set j x)))
      | none => none)
    | _ => none)
  | some (.dic es) => (match keyOf i with
    | some k => bif es.length.blt sizeLine then some (ρ, st.set p (.dic (putS es k x))) else none
    | none => none)
  | _ => none
theorem putAt_lst {p : Nat} {xs : List Val} {i : Int} (h : st[p]? = some (.lst xs)) (h0 : 0 ≤ i) (h1 : i < (xs.length : Int)) : putAt1 st p (.int i) x ρ = some (ρ, st.set p (.lst (xs.set i.toNat x))) := by
  unfold putAt1
  rw [h]
  dsimp only
  rw [show ixN xs.length i = some i.toNat by unfold ixN; rw [if_pos h0, if_pos h1]]
def kSub1 (ti : FE) (x : Val) (ρ : Env) (r : R Val) : Option (Env × Store) := match r with
  | .ok (.ref p) st1 => (match ti ρ st1 with
    | .ok i st2 => putAt1 st2 p i x ρ
    | _ => none)
  | _ => none
def kSub2 (p : Nat) (x : Val) (ρ : Env) (r : R Val) : Option (Env × Store) := match r with
  | .ok i st2 => putAt1 st2 p i x ρ
  | _ => none
theorem gSub_eq {to ti : FE} : gSub to ti x ρ st = kSub1 ti x ρ (to ρ st) := by
  unfold gSub kSub1
  cases to ρ st with
  | ok o st1 =>
    cases o <;> first
      | rfl
      | (dsimp only
         cases ti ρ st1 <;> rfl)
  | exc c s => rfl
  | bad => rfl
theorem kSub1_ok {ti : FE} {p : Nat} : kSub1 ti x ρ (.ok (.ref p) st) = kSub2 p x ρ (ti ρ st) := by
  unfold kSub1 kSub2
  dsimp only
theorem kSub2_ok {p : Nat} {i : Val} : kSub2 p x ρ (.ok i st) = putAt1 st p i x ρ := nd rfl
/-! expressions -/
def kOp2 (f : F2) (x : Val) : Val → Store → R Val := fun y s => R.opt (f x y s)
theorem kOp2_eq (f : F2) (x : Val) (y : Val) (s : Store) : kOp2 f x y s = R.opt (f x y s) := nd rfl
def kOp1 (f : F2) (tb : FE) (ρ : Env) : Val → Store → R Val := fun x s => (tb ρ s).bind (kOp2 f x)
theorem kOp1_eq (f : F2) (tb : FE) (ρ : Env) (x : Val) (s : Store) : kOp1 f tb ρ x s = (tb ρ s).bind (kOp2 f x) := nd rfl
theorem eOp_eq  : eOp f ta tb ρ st = (ta ρ st).bind (kOp1 f tb ρ) := nd rfl
def kUn (f : F1) : Val → Store → R Val := fun x s => R.opt (f x s)
theorem kUn_eq (f : F1) (x : Val) (s : Store) : kUn f x s = R.opt (f x s) := nd rfl
theorem eUn_eq {f1 : F1} : eUn f1 ta ρ st = (ta ρ st).bind (kUn f1) := nd rfl
def kB : Val → Store → R Bool := fun x s => match x with
  | .bl b => .ok b s
  | _ => .bad
theorem kB_eq (b : Bool) (s : Store) : kB (.bl b) s = .ok b s := nd rfl
theorem tB_eq : tB te ρ st = (te ρ st).bind kB := nd rfl
def kCh4 (f' : F2) (y : Val) : Val → Store → R Val := fun u s => R.opt (f' y u s)
theorem kCh4_eq (f' : F2) (y u : Val) (s : Store) : kCh4 f' y u s = R.opt (f' y u s) := nd rfl
def kCh3 (f' : F2) (tc : FE) (ρ : Env) (y : Val) : Val → Store → R Val := fun z s => match z with
  | .bl true => (tc ρ s).bind (kCh4 f' y)
  | .bl false => .ok (.bl false) s
  | _ => .bad
theorem kCh3_t (f' : F2) (tc : FE) (ρ : Env) (y : Val) (s : Store) : kCh3 f' tc ρ y (.bl true) s = (tc ρ s).bind (kCh4 f' y) := nd rfl
theorem kCh3_f (f' : F2) (tc : FE) (ρ : Env) (y : Val) (s : Store) : kCh3 f' tc ρ y (.bl false) s = .ok (.bl false) s := nd rfl
def kCh2 (f f' : F2) (tc : FE) (ρ : Env) (x : Val) : Val → Store → R Val := fun y s => (R.opt (f x y s)).bind (kCh3 f' tc ρ y)
theorem kCh2_eq (f f' : F2) (tc : FE) (ρ : Env) (x y : Val) (s : Store) : kCh2 f f' tc ρ x y s = (R.opt (f x y s)).bind (kCh3 f' tc ρ y) := nd rfl
def kCh1 (f f' : F2) (tb tc : FE) (ρ : Env) : Val → Store → R Val := fun x s => (tb ρ s).bind (kCh2 f f' tc ρ x)
theorem kCh1_eq (f f' : F2) (tb tc : FE) (ρ : Env) (x : Val) (s : Store) : kCh1 f f' tb tc ρ x s = (tb ρ s).bind (kCh2 f f' tc ρ x) := nd rfl
theorem eChain_eq : eChain f f' ta tb tc ρ st = (ta ρ st).bind (kCh1 f f' tb tc ρ) := by
  rfl
def kAnd (t : FT) (ρ : Env) : Bool → Store → R Bool := fun b s => bif b then t ρ s else .ok false s
theorem kAnd_t (t : FT) (ρ : Env) (s : Store) : kAnd t ρ true s = t ρ s := nd rfl
theorem kAnd_f (t : FT) (ρ : Env) (s : Store) : kAnd t ρ false s = .ok false s := nd rfl
theorem tAnd_eq  : tAnd c c' ρ st = (c ρ st).bind (kAnd c' ρ) := nd rfl
def kOr (t : FT) (ρ : Env) : Bool → Store → R Bool := fun b s => bif b then .ok true s else t ρ s
theorem kOr_t (t : FT) (ρ : Env) (s : Store) : kOr t ρ true s = .ok true s := nd rfl
theorem kOr_f (t : FT) (ρ : Env) (s : Store) : kOr t ρ false s = t ρ s := nd rfl
theorem tOr_eq  : tOr c c' ρ st = (c ρ st).bind (kOr c' ρ) := nd rfl
def kNot  : Bool → Store → R Bool := fun b s => .ok (!b) s
theorem kNot_eq  (b : Bool) (s : Store) : kNot  b s = .ok (!b) s := nd rfl
theorem tNot_eq  : tNot c ρ st = (c ρ st).bind kNot := nd rfl
theorem tYes_eq  : tYes ρ st = .ok true st := nd rfl
def kEAnd (t : FE) (ρ : Env) : Val → Store → R Val := fun x s => match x with
  | .bl true => t ρ s
  | .bl false => .ok (.bl false) s
  | _ => .bad
theorem kEAnd_t (t : FE) (ρ : Env) (s : Store) : kEAnd t ρ (.bl true) s = t ρ s := nd rfl
theorem kEAnd_f (t : FE) (ρ : Env) (s : Store) : kEAnd t ρ (.bl false) s = .ok (.bl false) s := nd rfl
theorem eAnd_eq : eAnd ta tb ρ st = (ta ρ st).bind (kEAnd tb ρ) := nd rfl
def kEOr (t : FE) (ρ : Env) : Val → Store → R Val := fun x s => match x with
  | .bl true => .ok (.bl true) s
  | .bl false => t ρ s
  | _ => .bad
theorem kEOr_t (t : FE) (ρ : Env) (s : Store) : kEOr t ρ (.bl true) s = .ok (.bl true) s := nd rfl
theorem kEOr_f (t : FE) (ρ : Env) (s : Store) : kEOr t ρ (.bl false) s = t ρ s := nd rfl
theorem eOr_eq : eOr ta tb ρ st = (ta ρ st).bind (kEOr tb ρ) := nd rfl
def kENot : Val → Store → R Val := fun x s => match x with
  | .bl b => .ok (.bl (!b)) s
  | _ => .bad
theorem kENot_eq (b : Bool) (s : Store) : kENot (.bl b) s = .ok (.bl (!b)) s := nd rfl
theorem eNot_eq : eNot ta ρ st = (ta ρ st).bind kENot := nd rfl
def kEIf (ta tb : FE) (ρ : Env) : Bool → Store → R Val := fun b s => bif b then ta ρ s else tb ρ s
theorem kEIf_t (ta tb : FE) (ρ : Env) (s : Store) : kEIf ta tb ρ true s = ta ρ s := nd rfl
theorem kEIf_f (ta tb : FE) (ρ : Env) (s : Store) : kEIf ta tb ρ false s = tb ρ s := nd rfl
theorem eIf_eq  : eIf c ta tb ρ st = (c ρ st).bind (kEIf ta tb ρ) := nd rfl
theorem aNil_eq  : aNil ρ st = .ok [] st := nd rfl
def kCons2 (x : Val) : List Val → Store → R (List Val) := fun xs s => .ok (x :: xs) s
theorem kCons2_eq (x : Val) (xs : List Val) (s : Store) : kCons2 x xs s = .ok (x :: xs) s := nd rfl
def kCons1 (a : FA) (ρ : Env) : Val → Store → R (List Val) := fun x s => (a ρ s).bind (kCons2 x)
theorem kCons1_eq (a : FA) (ρ : Env) (x : Val) (s : Store) : kCons1 a ρ x s = (a ρ s).bind (kCons2 x) := nd rfl
theorem aCons_eq  : aCons te a ρ st = (te ρ st).bind (kCons1 a ρ) := nd rfl
def kTup  : List Val → Store → R Val := fun xs s => bif Nat.ble xs.length sizeLine then .ok (.tup xs) s else .bad
theorem kTup_eq  (xs : List Val) (s : Store) (h : xs.length ≤ 10000) : kTup  xs s = .ok (.tup xs) s := by
  unfold kTup
  rw [show Nat.ble xs.length sizeLine = true from Nat.ble_eq_true_of_le (Nat.le_trans h (by decide))]
  rfl
theorem eTup_eq  : eTup a ρ st = (a ρ st).bind kTup := nd rfl
/-- a new list's result -/
def okL (b : Bool) (xs : List Val) (s : Store) : R Val := .ok (newL b xs s).1 (newL b xs s).2
theorem okL_f {xs : List Val} : okL false xs st = .ok (.ro xs) st := nd rfl
theorem okL_t {xs : List Val} : okL true xs st = .ok (.ref st.length) (st ++ [.lst xs]) := nd rfl
def kLst (b : Bool) : List Val → Store → R Val := fun xs s => bif Nat.ble xs.length sizeLine then okL b xs s else .bad
theorem kLst_eq (b : Bool) (xs : List Val) (s : Store) (h : xs.length ≤ 10000) : kLst b xs s = okL b xs s := by
  unfold kLst
  rw [show Nat.ble xs.length sizeLine = true from Nat.ble_eq_true_of_le (Nat.le_trans h (by decide))]
  rfl
theorem eLst_eq {b : Bool} : eLst b a ρ st = (a ρ st).bind (kLst b) := nd rfl
theorem newL_f {xs : List Val} : newL false xs st = (.ro xs, st) := nd rfl
theorem newL_t {xs : List Val} : newL true xs st = (.ref st.length, st ++ [.lst xs]) := nd rfl
theorem app_nil {xs : List Val} : xs ++ [] = xs := List.append_nil xs
theorem app_cons {xs ys : List Val} : (x :: xs) ++ ys = x :: (xs ++ ys) := nd rfl
theorem nil_app {ys : List Val} : [] ++ ys = ys := nd rfl
def kCall (F : List Val → Store → R Val) (ds : List Val) : List Val → Store → R Val := fun xs s => F (xs ++ ds) s
theorem kCall_eq (F : List Val → Store → R Val) (ds : List Val) (xs : List Val) (s : Store) : kCall F ds xs s = F (xs ++ ds) s := nd rfl
theorem eCall_eq {F : List Val → Store → R Val} {ds : List Val} : eCall F ds a ρ st = (a ρ st).bind (kCall F ds) := nd rfl
def kCallK (F : List Val → Store → R Val) (pl : List Nat) : List Val → Store → R Val := fun xs s => bif xs.length == pl.length then F (byPl pl xs) s else .bad
theorem kCallK_eq (F : List Val → Store → R Val) (pl : List Nat) (xs : List Val) (s : Store) (h : xs.length = pl.length) : kCallK F pl xs s = F (byPl pl xs) s := by
  unfold kCallK
  rw [show (xs.length == pl.length) = true by simp [h]]
  rfl
theorem eCallK_eq {F : List Val → Store → R Val} {pl : List Nat} : eCallK F pl a ρ st = (a ρ st).bind (kCallK F pl) := nd rfl
def kCallM2 (F : List Val → Store → R Val) (n m : Nat) (ds : List Val) (pl : List Nat) (xs : List Val) : List Val → Store → R Val := fun zs s => bif (xs.length == n) && (zs.length == m) then F (byPl pl (xs ++ (ds ++ zs))) s else .bad
theorem kCallM2_eq (F : List Val → Store → R Val) (n m : Nat) (ds : List Val) (pl : List Nat) (xs : List Val) (zs : List Val) (s : Store) (h : (xs.length = n) ∧ (zs.length = m)) : kCallM2 F n m ds pl xs zs s = F (byPl pl (xs ++ (ds ++ zs))) s := by
  unfold kCallM2
  rw [show ((xs.length == n) && (zs.length == m)) = true by simp [h]]
  rfl
def kCallM1 (F : List Val → Store → R Val) (n m : Nat) (ds : List Val) (pl : List Nat) (a : FA) (ρ : Env) : List Val → Store → R Val := fun xs s => (a ρ s).bind (kCallM2 F n m ds pl xs)
theorem kCallM1_eq (F : List Val → Store → R Val) (n m : Nat) (ds : List Val) (pl : List Nat) (a : FA) (ρ : Env) (xs : List Val) (s : Store) : kCallM1 F n m ds pl a ρ xs s = (a ρ s).bind (kCallM2 F n m ds pl xs) := nd rfl
theorem eCallM_eq {F : List Val → Store → R Val} {ds : List Val} {pl : List Nat} : eCallM F n m ds pl a a' ρ st = (a ρ st).bind (kCallM1 F n m ds pl a' ρ) := nd rfl
theorem byPl_nil {ws : List Val} : byPl [] ws = [] := rfl
theorem byPl_nil' {ws : List Val} : byPl [] ws = [] := nd rfl
def nthA (ws : List Val) (i : Nat) (r : List Val) : List Val := match ws[i]? with
  | some w => w :: r
  | none => r
theorem byPl_cons {i : Nat} {pl : List Nat} {ws : List Val} : byPl (i :: pl) ws = nthA ws i (byPl pl ws) := by
  unfold byPl nthA
  cases h : ws[i]? with
  | none => rw [List.filterMap_cons_none h]
  | some w => rw [List.filterMap_cons_some h]
theorem nthA_z {w : Val} {ws r : List Val} : nthA (w :: ws) 0 r = w :: r := nd rfl
theorem nthA_s {w : Val} {ws r : List Val} : nthA (w :: ws) (n + 1) r = nthA ws n r := nd rfl
def kBf (f : FL1) : List Val → Store → R Val := fun xs s => R.opt (f xs s)
theorem kBf_eq (f : FL1) (xs : List Val) (s : Store) : kBf f xs s = R.opt (f xs s) := nd rfl
theorem eB_eq {f1 : FL1} : eB f1 a ρ st = (a ρ st).bind (kBf f1) := nd rfl
/-- what a method has made of its list -/
def mOut (st : Store) (p : Nat) (o : Option (Val × List Val)) : R Val := match o with
  | some (z, zs) => .ok z (st.set p (.lst zs))
  | none => .bad
theorem mOut_some {p : Nat} {q : Val × List Val} : mOut st p (some q) = .ok q.1 (st.set p (.lst q.2)) := nd rfl
def onL (o : Option (List Val)) (f : List Val → R Val) : R Val := match o with
  | some xs => f xs
  | none => .bad
def kM3 (f : FM) (p : Nat) (ys : List Val) (s : Store) : List Val → R Val := fun xs => mOut s p (f xs ys)
theorem kM3_eq {f : FM} {p : Nat} {ys xs : List Val} {s : Store} : kM3 f p ys s xs = mOut s p (f xs ys) := nd rfl
def kM2 (f : FM) (p : Nat) : List Val → Store → R Val := fun ys s => onL (lstAt s p) (kM3 f p ys s)
theorem kM2_eq {f : FM} {p : Nat} {ys : List Val} {s : Store} : kM2 f p ys s = onL (lstAt s p) (kM3 f p ys s) := nd rfl
def kM1' (f : FM) (a : FA) (ρ : Env) (p : Nat) (s : Store) : List Val → R Val := fun _ => (a ρ s).bind (kM2 f p)
theorem kM1'_eq {f : FM} {p : Nat} {xs : List Val} {s : Store} : kM1' f a ρ p s xs = (a ρ s).bind (kM2 f p) := nd rfl
def kM1 (f : FM) (a : FA) (ρ : Env) : Val → Store → R Val := fun x s => match x with
  | .ref p => onL (lstAt s p) (kM1' f a ρ p s)
  | _ => .bad
theorem kM1_eq {f : FM} {p : Nat} {s : Store} : kM1 f a ρ (.ref p) s = onL (lstAt s p) (kM1' f a ρ p s) := nd rfl
theorem onL_some {xs : List Val} {f : List Val → R Val} : onL (some xs) f = f xs := nd rfl
theorem eM_eq {f : FM} : eM f te a ρ st = (te ρ st).bind (kM1 f a ρ) := by
  unfold eM
  congr 1
def kExt2 (p : Nat) : Val → Store → R Val := fun y s => match lstAt s p, plOf s y with
  | some xs, some zs => bif Nat.ble (xs.length + zs.length) sizeLine then .ok .non (s.set p (.lst (xs ++ zs))) else .bad
  | _, _ => .bad
def kSl3 (b : Bool) (x : Val) (l : Option Int) : Option Int → Store → R Val := fun h s => R.opt (slF b x l h s)
theorem kSl3_eq (b : Bool) (x : Val) (l : Option Int) (h : Option Int) (s : Store) : kSl3 b x l h s = R.opt (slF b x l h s) := nd rfl
def kSl2 (b : Bool) (hi : FO) (ρ : Env) (x : Val) : Option Int → Store → R Val := fun l s => (hi ρ s).bind (kSl3 b x l)
theorem kSl2_eq (b : Bool) (hi : FO) (ρ : Env) (x : Val) (l : Option Int) (s : Store) : kSl2 b hi ρ x l s = (hi ρ s).bind (kSl3 b x l) := nd rfl
def kSl1 (b : Bool) (lo hi : FO) (ρ : Env) : Val → Store → R Val := fun x s => (lo ρ s).bind (kSl2 b hi ρ x)
theorem kSl1_eq (b : Bool) (lo hi : FO) (ρ : Env) (x : Val) (s : Store) : kSl1 b lo hi ρ x s = (lo ρ s).bind (kSl2 b hi ρ x) := nd rfl
theorem eSl_eq {b : Bool} {lo hi : FO} : eSl b te lo hi ρ st = (te ρ st).bind (kSl1 b lo hi ρ) := nd rfl
theorem oNo_eq  : oNo ρ st = .ok none st := nd rfl
def kAt : Val → Store → R (Option Int) := fun x s => match x with
  | .int i => .ok (some i) s
  | _ => .bad
theorem kAt_eq (i : Int) (s : Store) : kAt (.int i) s = .ok (some i) s := nd rfl
theorem oAt_eq : oAt te ρ st = (te ρ st).bind kAt := nd rfl
def kIsi (T : Ty) : Val → Store → R Val := fun x s => match tyF s x with
  | some U => .ok (.bl (U.le T)) s
  | none => .bad
theorem kIsi_eq {T U : Ty} {s : Store} (h : tyF s x = some U) : kIsi T x s = .ok (.bl (U.le T)) s := by unfold kIsi; rw [h]
theorem kIsi_non {T : Ty} {s : Store} : kIsi T .non s = .ok (.bl (Ty.le .non T)) s := nd rfl
theorem kIsi_bl {T : Ty} {s : Store} {b : Bool} : kIsi T (.bl b) s = .ok (.bl (Ty.le .bool T)) s := nd rfl
theorem kIsi_int {T : Ty} {s : Store} {i : Int} : kIsi T (.int i) s = .ok (.bl (Ty.le .int T)) s := nd rfl
theorem kIsi_str {T : Ty} {s : Store} {i : Str} : kIsi T (.str i) s = .ok (.bl (Ty.le .str T)) s := nd rfl
theorem kIsi_tup {T : Ty} {s : Store} {xs : List Val} : kIsi T (.tup xs) s = .ok (.bl (Ty.le .tuple T)) s := nd rfl
theorem kIsi_ro {T : Ty} {s : Store} {xs : List Val} : kIsi T (.ro xs) s = .ok (.bl (Ty.le .list T)) s := nd rfl
theorem kIsi_wr {T : Ty} {s : Store} {xs : List Val} : kIsi T (.wr xs) s = .ok (.bl (Ty.le .list T)) s := nd rfl
theorem kIsi_rd {T : Ty} {s : Store} {ks : List Key} {xs : List Val} : kIsi T (.rd ks xs) s = .ok (.bl (Ty.le .dict T)) s := nd rfl
theorem eIsi_eq {T : Ty} : eIsi T te ρ st = (te ρ st).bind (kIsi T) := nd rfl
def kTru : Val → Store → R Bool := fun x s => match truF s x with
  | some b => .ok b s
  | none => .bad
theorem kTru_eq {b : Bool} {s : Store} (h : truF s x = some b) : kTru x s = .ok b s := by unfold kTru; rw [h]
theorem kTru_non {s : Store} : kTru .non s = .ok false s := nd rfl
theorem kTru_bl {s : Store} {b : Bool} : kTru (.bl b) s = .ok b s := nd rfl
theorem kTru_int {s : Store} {i : Int} : kTru (.int i) s = .ok (i != 0) s := nd rfl
theorem kTru_tup {s : Store} {xs : List Val} : kTru (.tup xs) s = .ok (!xs.isEmpty) s := nd rfl
theorem kTru_ro {s : Store} {xs : List Val} : kTru (.ro xs) s = .ok (!xs.isEmpty) s := nd rfl
theorem tTru_eq : tTru te ρ st = (te ρ st).bind kTru := nd rfl
def kRev (b : Bool) : Val → Store → R Val := fun x s => R.opt (revF b x s)
theorem kRev_eq {b : Bool} {s : Store} : kRev b x s = R.opt (revF b x s) := nd rfl
theorem eRev_eq {b : Bool} : eRev b te ρ st = (te ρ st).bind (kRev b) := nd rfl
def kMk1 (n f : Str) : List Val → Store → R Val := fun xs s => match xs with
  | [x] => .ok (.ex1 n f x) s
  | _ => .bad
theorem kMk1_eq {n f : Str} {s : Store} : kMk1 n f [x] s = .ok (.ex1 n f x) s := nd rfl
theorem eMk1_eq {n f : Str} : eMk1 n f a ρ st = (a ρ st).bind (kMk1 n f) := nd rfl
/-- a comprehension's result -/
def lcOut (b : Bool) (o : Option (List Val × Store)) : R Val := match o with
  | some (xs, st2) => .ok (newL b xs st2).1 (newL b xs st2).2
  | none => .bad
theorem lcOut_some {b : Bool} {p : List Val × Store} : lcOut b (some p) = okL b p.1 p.2 := nd rfl
def kLc (b : Bool) (g : FG) (c : FT) (te : FE) (ρ : Env) : Its → Store → R Val := fun cur s => lcOut b (lcl cur g c te ρ bigN 0 [] s)
theorem kLc_eq {b : Bool} {g : FG} {cur : Its} {s : Store} : kLc b g c te ρ cur s = lcOut b (lcl cur g c te ρ bigN 0 [] s) := nd rfl
theorem eLc_eq {b : Bool} {wi : FI} {g : FG} {vs : List Nat} : eLc b wi g c te vs ρ st = (wi ρ st).bind (kLc b g c te (wipeF ρ vs)) := nd rfl
/-- an item's end -/
def lcEnd (r : R Val) : Option (Option Val × Store) := match r with
  | .ok y s => some (some y, s)
  | _ => none
theorem lcEnd_ok : lcEnd (.ok x st) = some (some x, st) := nd rfl
def lcTst (te : FE) (ρ : Env) (r : R Bool) : Option (Option Val × Store) := match r with
  | .ok true s => lcEnd (te ρ s)
  | .ok false s => some (none, s)
  | _ => none
theorem lcTst_t : lcTst te ρ (.ok true st) = lcEnd (te ρ st) := nd rfl
theorem lcTst_f : lcTst te ρ (.ok false st) = some (none, st) := nd rfl
def lcTg (tt : FT) (te : FE) (o : Option (Env × Store)) : Option (Option Val × Store) := match o with
  | some (ρ1, st1) => lcTst te ρ1 (tt ρ1 st1)
  | none => none
theorem lcTg_some {p : Env × Store} : lcTg c te (some p) = lcTst te p.1 (c p.1 p.2) := nd rfl
theorem lc1_eq {g : FG} : lc1 g c te x ρ st = lcTg c te (g x ρ st) := by
  unfold lc1 lcTg
  cases g x ρ st with
  | none => rfl
  | some p =>
    dsimp only
    unfold lcTst
    cases c p.1 p.2 with
    | ok b s =>
      cases b with
      | true =>
        dsimp only
        unfold lcEnd
        cases te p.1 s <;> rfl
      | false => rfl
    | exc _ _ => rfl
    | bad => rfl
/-! what is walked -/
def curR (o : Option Its) (s : Store) : R Its := match o with
  | some cur => .ok cur s
  | none => .bad
theorem curR_some {cur : Its} : curR (some cur) st = .ok cur st := nd rfl
def kSeq : Val → Store → R Its := fun x s => curR (curOf s x) s
theorem kSeq_eq {s : Store} : kSeq x s = curR (curOf s x) s := nd rfl
theorem iSeq_eq : iSeq te ρ st = (te ρ st).bind kSeq := nd rfl
def kRg1 : List Val → Store → R Its := fun xs s => match xs with
  | [.int n] => bif okRg 0 n then .ok (fun (_ : Store) => some (rngs 0 n.toNat)) s else .bad
  | _ => .bad
theorem kRg1_eq {n : Int} {s : Store} (h : (-4611686018427387904 ≤ n ∧ n < 4611686018427387904)) : kRg1 [.int n] s = .ok (fun (_ : Store) => some (rngs 0 n.toNat)) s := by
  unfold kRg1
  dsimp only
  rw [show okRg 0 n = true by unfold okRg; exact decide_eq_true (by omega)]
  rfl
theorem iRg1_eq : iRg1 a ρ st = (a ρ st).bind kRg1 := nd rfl
def kRg2 : List Val → Store → R Its := fun xs s => match xs with
  | [.int a, .int b] => bif okRg a b then .ok (fun (_ : Store) => some (rngs a (b - a).toNat)) s else .bad
  | _ => .bad
theorem kRg2_eq {n m : Int} {s : Store} (h : (-4611686018427387904 ≤ n ∧ n < 4611686018427387904) ∧ (-4611686018427387904 ≤ m ∧ m < 4611686018427387904)) : kRg2 [.int n, .int m] s = .ok (fun (_ : Store) => some (rngs n (m - n).toNat)) s := by
  unfold kRg2
  dsimp only
  rw [show okRg n m = true by unfold okRg; exact decide_eq_true (by omega)]
  rfl
theorem iRg2_eq : iRg2 a ρ st = (a ρ st).bind kRg2 := nd rfl
def enR (o : Option Its) (s : Store) : R Its := match o with
  | some cur => .ok (enC cur) s
  | none => .bad
theorem enR_some {cur : Its} : enR (some cur) st = .ok (enC cur) st := nd rfl
def kEn : List Val → Store → R Its := fun xs s => match xs with
  | [x] => enR (curOf s x) s
  | _ => .bad
theorem kEn_eq {s : Store} : kEn [x] s = enR (curOf s x) s := nd rfl
theorem iEn_eq : iEn a ρ st = (a ρ st).bind kEn := nd rfl
def zpR (b : Bool) (o o' : Option Its) (s : Store) : R Its := match o, o' with
  | some c1, some c2 => .ok (zpC b c1 c2) s
  | _, _ => .bad
theorem zpR_some {b : Bool} {c1 c2 : Its} : zpR b (some c1) (some c2) st = .ok (zpC b c1 c2) st := nd rfl
def kZp (b : Bool) : List Val → Store → R Its := fun xs s => match xs with
  | [x, y] => zpR b (curOf s x) (curOf s y) s
  | _ => .bad
theorem kZp_eq {b : Bool} {s : Store} : kZp b [x, y] s = zpR b (curOf s x) (curOf s y) s := nd rfl
theorem iZpB_eq {b : Bool} : iZpB b a ρ st = (a ρ st).bind (kZp b) := nd rfl
/-! listings -/
def kRgL1 (b : Bool) : Val → Store → R Val := fun x s => match x with
  | .int n => bif okRgB 0 n then .ok (newL b (rngs 0 (n - 0).toNat) s).1 (newL b (rngs 0 (n - 0).toNat) s).2 else .bad
  | _ => .bad
theorem kRgL1_eq {b : Bool} {n : Int} {s : Store} (h : (-4611686018427387904 ≤ n ∧ n < 4611686018427387904) ∧ (n - 0).toNat ≤ 10000) : kRgL1 b (.int n) s = okL b (rngs 0 (n - 0).toNat) s := by
  unfold kRgL1
  dsimp only
  rw [show okRgB 0 n = true by unfold okRgB okRg; rw [decide_eq_true (by omega), decide_eq_true (Nat.le_trans (show ((n) - 0).toNat ≤ 10000 by omega) (by decide))]; rfl]
  rfl
theorem eListRg1_eq {b : Bool} : eListRg1 b te ρ st = (te ρ st).bind (kRgL1 b) := nd rfl
def kRgT1 : Val → Store → R Val := fun x s => match x with
  | .int n => bif okRgB 0 n then .ok (.tup (rngs 0 (n - 0).toNat)) s else .bad
  | _ => .bad
theorem kRgT1_eq {n : Int} {s : Store} (h : (-4611686018427387904 ≤ n ∧ n < 4611686018427387904) ∧ (n - 0).toNat ≤ 10000) : kRgT1 (.int n) s = .ok (.tup (rngs 0 (n - 0).toNat)) s := by
  unfold kRgT1
  dsimp only
  rw [show okRgB 0 n = true by unfold okRgB okRg; rw [decide_eq_true (by omega), decide_eq_true (Nat.le_trans (show ((n) - 0).toNat ≤ 10000 by omega) (by decide))]; rfl]
  rfl
theorem eTupRg1_eq : eTupRg1 te ρ st = (te ρ st).bind kRgT1 := nd rfl
def kRgL2 (b : Bool) (x : Val) : Val → Store → R Val := fun y s => match x, y with
  | .int n, .int m => bif okRgB n m then .ok (newL b (rngs n (m - n).toNat) s).1 (newL b (rngs n (m - n).toNat) s).2 else .bad
  | _, _ => .bad
theorem kRgL2_eq {b : Bool} {n m : Int} {s : Store} (h : (-4611686018427387904 ≤ n ∧ n < 4611686018427387904) ∧ (-4611686018427387904 ≤ m ∧ m < 4611686018427387904) ∧ (m - n).toNat ≤ 10000) : kRgL2 b (.int n) (.int m) s = okL b (rngs n (m - n).toNat) s := by
  unfold kRgL2
  dsimp only
  rw [show okRgB n m = true by unfold okRgB okRg; rw [decide_eq_true (by omega), decide_eq_true (Nat.le_trans (show ((m) - n).toNat ≤ 10000 by omega) (by decide))]; rfl]
  rfl
def kRgL2a (b : Bool) (tb : FE) (ρ : Env) : Val → Store → R Val := fun x s => (tb ρ s).bind (kRgL2 b x)
theorem kRgL2a_eq {b : Bool} {s : Store} : kRgL2a b tb ρ x s = (tb ρ s).bind (kRgL2 b x) := nd rfl
theorem eListRg2_eq {b : Bool} : eListRg2 b ta tb ρ st = (ta ρ st).bind (kRgL2a b tb ρ) := nd rfl
def kRgT2 (x : Val) : Val → Store → R Val := fun y s => match x, y with
  | .int n, .int m => bif okRgB n m then .ok (.tup (rngs n (m - n).toNat)) s else .bad
  | _, _ => .bad
theorem kRgT2_eq {n m : Int} {s : Store} (h : (-4611686018427387904 ≤ n ∧ n < 4611686018427387904) ∧ (-4611686018427387904 ≤ m ∧ m < 4611686018427387904) ∧ (m - n).toNat ≤ 10000) : kRgT2 (.int n) (.int m) s = .ok (.tup (rngs n (m - n).toNat)) s := by
  unfold kRgT2
  dsimp only
  rw [show okRgB n m = true by unfold okRgB okRg; rw [decide_eq_true (by omega), decide_eq_true (Nat.le_trans (show ((m) - n).toNat ≤ 10000 by omega) (by decide))]; rfl]
  rfl
def kRgT2a (tb : FE) (ρ : Env) : Val → Store → R Val := fun x s => (tb ρ s).bind (kRgT2 x)
theorem kRgT2a_eq {s : Store} : kRgT2a tb ρ x s = (tb ρ s).bind (kRgT2 x) := nd rfl
theorem eTupRg2_eq : eTupRg2 ta tb ρ st = (ta ρ st).bind (kRgT2a tb ρ) := nd rfl
variable {xs ys : List Val}
theorem cur_tup : curOf st (.tup xs) = some fun _ => some xs := nd rfl
theorem cur_ro : curOf st (.ro xs) = some fun _ => some xs := nd rfl
theorem cur_wr : curOf st (.wr xs) = some fun _ => some xs := nd rfl
theorem lstAt_of {p : Nat} (h : st[p]? = some (.lst xs)) : lstAt st p = some xs := by unfold lstAt; rw [h]
theorem cur_ref {p : Nat} (h : st[p]? = some (.lst xs)) : curOf st (.ref p) = some fun s => lstAt s p := by
  unfold curOf
  dsimp only
  rw [lstAt_of h]
theorem enC_c : enC (fun _ => some xs) = fun _ => some (enL xs) := nd rfl
theorem seq_tup : seqOf st (.tup xs) = some xs := nd rfl
theorem seq_ro : seqOf st (.ro xs) = some xs := nd rfl
theorem seq_wr : seqOf st (.wr xs) = some xs := nd rfl
theorem lst_ro : lstOf st (.ro xs) = some xs := nd rfl
theorem lst_wr : lstOf st (.wr xs) = some xs := nd rfl
theorem pl_ro : plOf st (.ro xs) = some xs := nd rfl
theorem seq_ref {p : Nat} (h : st[p]? = some (.lst xs)) : seqOf st (.ref p) = some xs := lstAt_of h
theorem lst_ref {p : Nat} (h : st[p]? = some (.lst xs)) : lstOf st (.ref p) = some xs := lstAt_of h
theorem pl_ref {p : Nat} (h : st[p]? = some (.lst xs)) : plOf st (.ref p) = some xs := lstAt_of h
theorem store_set {p : Nat} {c : Cell} (h : p < st.length) : (st.set p c)[p]? = some c := by
  rw [List.getElem?_set_self h]
theorem store_set_ne {p q : Nat} {c : Cell} (h : p ≠ q) : (st.set p c)[q]? = st[q]? := List.getElem?_set_ne h
theorem store_new {c : Cell} : (st ++ [c])[st.length]? = some c := getElem?_end rfl
theorem store_app {p : Nat} {cs : Store} (h : p < st.length) : (st ++ cs)[p]? = st[p]? := List.getElem?_append_left h
/-! whole numbers -/
variable {a1 a2 : Int} {b : Bool}
theorem fAdd_i : fAdd b (.int a1) (.int a2) st = some (.int (a1 + a2), st) := nd rfl
theorem fSub_i : fSub (.int a1) (.int a2) st = some (.int (a1 - a2), st) := nd rfl
theorem fMod_i (h : 0 < a2) : fMod (.int a1) (.int a2) st = some (.int (a1 % a2), st) := by
  show (bif decide (0 < a2) then some (Val.int (a1 % a2), st) else none) = _
  rw [decide_eq_true h]; rfl
theorem okMul_l (h : -18446744073709551616 < a1 ∧ a1 < 18446744073709551616) : okMul a1 a2 = true := by
  unfold okMul
  rw [decide_eq_true (Or.inl (by simpa using h))]
  rfl
theorem okMul_r (h : -18446744073709551616 < a2 ∧ a2 < 18446744073709551616) : okMul a1 a2 = true := by
  unfold okMul
  rw [decide_eq_true (Or.inr (by simpa using h))]
  rfl
theorem fMul_i (h : (-18446744073709551616 < a1 ∧ a1 < 18446744073709551616) ∨ (-18446744073709551616 < a2 ∧ a2 < 18446744073709551616)) : fMul b (.int a1) (.int a2) st = some (.int (a1 * a2), st) := by
  show (bif okMul a1 a2 then some (Val.int (a1 * a2), st) else none) = _
  rw [h.elim okMul_l okMul_r]; rfl
theorem fDiv_i (h : 0 < a2 ∧ a2 < 1152921504606846976) : fDiv (.int a1) (.int a2) st = some (.int (a1 / a2), st) := by
  show (bif okDiv a2 then some (Val.int (a1 / a2), st) else none) = _
  have h1 : a2.natAbs < 2 ^ 60 := by omega
  have h2 : a2.natAbs.log2 < 9000 := Nat.lt_of_lt_of_le (PySem.Flt.log2_lt_of (by decide) h1) (by decide)
  unfold okDiv
  rw [decide_eq_true h.1, decide_eq_true h2]; rfl
theorem fLt_i : fLt (.int a1) (.int a2) st = some (.bl (decide (a1 < a2)), st) := nd rfl
theorem fLe_i : fLe (.int a1) (.int a2) st = some (.bl (decide (a1 ≤ a2)), st) := nd rfl
theorem fGt_i : fGt (.int a1) (.int a2) st = some (.bl (decide (a2 < a1)), st) := nd rfl
theorem fGe_i : fGe (.int a1) (.int a2) st = some (.bl (decide (a2 ≤ a1)), st) := nd rfl
theorem fNeg_i : fNeg (.int a1) st = some (.int (-a1), st) := nd rfl
theorem fEq_i : fEq false (.int a1) (.int a2) st = some (.bl (decide (a1 = a2)), st) := nd rfl
theorem fNe_i : fEq true (.int a1) (.int a2) st = some (.bl (!decide (a1 = a2)), st) := nd rfl
theorem fEq_s {s1 s2 : Str} : fEq false (.str s1) (.str s2) st = some (.bl (decide (s1 = s2)), st) := nd rfl
theorem fNe_s {s1 s2 : Str} : fEq true (.str s1) (.str s2) st = some (.bl (!decide (s1 = s2)), st) := nd rfl
theorem fIsN_eq : fIsN b x .non st = some (.bl (bif b then !isN x else isN x), st) := nd rfl
theorem isN_non : isN .non = true := nd rfl
theorem isN_bl : isN (.bl b) = false := nd rfl
theorem isN_int : isN (.int a1) = false := nd rfl
theorem isN_str {s1 : Str} : isN (.str s1) = false := nd rfl
theorem isN_tup : isN (.tup xs) = false := nd rfl
theorem isN_ro : isN (.ro xs) = false := nd rfl
theorem isN_ref : isN (.ref n) = false := nd rfl
theorem isN_ex1 {c f : Str} : isN (.ex1 c f x) = false := nd rfl
theorem isN_ex0 {c : Str} : isN (.ex0 c) = false := nd rfl
theorem ble_sz {k : Nat} (h : k ≤ 10000) : Nat.ble k sizeLine = true := Nat.ble_eq_true_of_le (Nat.le_trans h (by decide))
theorem fAdd_tup (h : xs.length + ys.length ≤ 10000) : fAdd b (.tup xs) (.tup ys) st = some (.tup (xs ++ ys), st) := by
  show (bif Nat.ble (xs.length + ys.length) sizeLine then some (Val.tup (xs ++ ys), st) else none) = _
  rw [ble_sz h]; rfl
theorem fAdd_ro (h : xs.length + ys.length ≤ 10000) : fAdd b (.ro xs) (.ro ys) st = some (newL b (xs ++ ys) st) := by
  show (bif Nat.ble (xs.length + ys.length) sizeLine then some (newL b (xs ++ ys) st) else none) = _
  rw [ble_sz h]; rfl
theorem okRg_eq (h : (-4611686018427387904 ≤ a1 ∧ a1 < 4611686018427387904) ∧ (-4611686018427387904 ≤ a2 ∧ a2 < 4611686018427387904)) : okRg a1 a2 = true := by
  unfold okRg
  exact decide_eq_true ⟨by omega, by omega, by omega, by omega⟩
theorem fLen_tup (h : xs.length ≤ 10000) : fLen [.tup xs] st = some (.int (xs.length : Nat), st) := by
  have := ble_sz h
  unfold fLen
  simp only [seqOf]
end
end FL
/-! loops as folds, comprehensions as maps -/
namespace FL
open PySem L2
theorem fl_foldS {α σ : Type} (l : List α) (e : α → Val) (f : σ → α → σ) (P : List α → σ → Prop) (E : σ → Env) (T : σ → Store) {cur : Its} {g : FG} {b : FS} (hc : ∀ s, cur (T s) = some (l.map e))
    (hb : ∀ d a r s, l = d ++ a :: r → P d s → ∃ ρ1 st1, g (e a) (E s) (T s) = some (ρ1, st1) ∧ (b ρ1 st1 = .nx (E (f s a)) (T (f s a)) ∨ b ρ1 st1 = .ct (E (f s a)) (T (f s a))) ∧ P (d ++ [a]) (f s a)) :
    ∀ (m : Nat) (d r : List α) (s : σ), l = d ++ r → P d s → r.length < m → fl cur g b m d.length (E s) (T s) = .nx (E (r.foldl f s)) (T (r.foldl f s)) ∧ P l (r.foldl f s)
  | 0, d, r, s, h1, h2, h3 => by omega
  | m + 1, d, [], s, h1, h2, h3 => by
    unfold fl
    rw [hc]
    dsimp only
    rw [List.append_nil] at h1
    subst h1
    rw [List.getElem?_eq_none (by rw [List.length_map]; exact Nat.le_refl _)]
    exact ⟨rfl, h2⟩
  | m + 1, d, a :: r, s, h1, h2, h3 => by
    obtain ⟨ρ1, st1, q1, q2, q3⟩ := hb d a r s h1 h2
    unfold fl
    rw [hc]
    dsimp only
    have e1 : (l.map e)[d.length]? = some (e a) := by
      rw [List.getElem?_map, h1, List.getElem?_append_right (Nat.le_refl _), Nat.sub_self]
      rfl
    rw [e1]
    dsimp only
    rw [q1]
    dsimp only
    have ih := fl_foldS l e f P E T hc hb m (d ++ [a]) r (f s a) (by rw [h1, List.append_assoc]; rfl) q3 (by simpa using h3)
    rw [List.length_append] at ih
    rcases q2 with q2 | q2 <;> rw [q2] <;> exact ih
/-- a for as a fold: the store stays -/
theorem fl_fold {α σ : Type} (l : List α) (e : α → Val) (f : σ → α → σ) (E : σ → Env) (s0 : σ) {g : FG} {b : FS} {st : Store} (hl : l.length < 1000000)
    (hb : ∀ a s, a ∈ l → ∃ ρ1 st1, g (e a) (E s) st = some (ρ1, st1) ∧ b ρ1 st1 = .nx (E (f s a)) st) : fl (fun _ => some (l.map e)) g b bigN 0 (E s0) st = .nx (E (l.foldl f s0)) st :=
  (fl_foldS (cur := fun _ => some (l.map e)) l e f (fun _ _ => True) E (fun _ => st) (fun _ => rfl) (fun d a r s h _ => let ⟨ρ1, st1, q1, q2⟩ := hb a s (by rw [h]; simp); ⟨ρ1, st1, q1, .inl q2, trivial⟩) bigN [] l s0 rfl trivial hl).1
/-- .. by what holds behind each part; the store may change -/
theorem fl_foldP {α σ : Type} (l : List α) (e : α → Val) (f : σ → α → σ) (P : List α → σ → Prop) (E : σ → Env) (T : σ → Store) (s0 : σ) {cur : Its} {g : FG} {b : FS} (hl : l.length < 1000000) (h0 : P [] s0) (hc : ∀ s, cur (T s) = some (l.map e))
    (hb : ∀ d a r s, l = d ++ a :: r → P d s → ∃ ρ1 st1, g (e a) (E s) (T s) = some (ρ1, st1) ∧ (b ρ1 st1 = .nx (E (f s a)) (T (f s a)) ∨ b ρ1 st1 = .ct (E (f s a)) (T (f s a))) ∧ P (d ++ [a]) (f s a)) :
    fl cur g b bigN 0 (E s0) (T s0) = .nx (E (l.foldl f s0)) (T (l.foldl f s0)) ∧ P l (l.foldl f s0) := fl_foldS l e f P E T hc hb bigN [] l s0 rfl h0 hl
/-- a loop by a relation: what holds behind each part of the row -/
theorem fl_rel {α : Type} (l : List α) (e : α → Val) (J : List α → Env → Store → Prop) {cur : Its} {g : FG} {b : FS} {ρ : Env} {st : Store} {Q : S → Prop} (hl : l.length < 1000000) (h0 : J [] ρ st) (hc : ∀ d ρ st, J d ρ st → cur st = some (l.map e))
    (hb : ∀ d a r ρ st, l = d ++ a :: r → J d ρ st → ∃ ρ1 st1, g (e a) ρ st = some (ρ1, st1) ∧ (b ρ1 st1).turnP (J (d ++ [a])) Q) (he : ∀ ρ st, J l ρ st → Q (.nx ρ st)) : Q (fl cur g b bigN 0 ρ st) := by
  refine fl_inv (xs := l.map e) (fun i ρ st => i ≤ l.length ∧ J (l.take i) ρ st) (fun i ρ st h => hc _ _ _ h.2) (fun i x ρ st hx h => ?_) (fun ρ st h => ?_) bigN 0 ρ st (by rw [List.length_map]; exact Nat.lt_of_lt_of_le hl (Nat.le_add_left _ _)) (Nat.zero_le _) ⟨Nat.zero_le _, by rw [List.take_zero]; exact h0⟩
  · rw [List.getElem?_map] at hx
    cases e1 : l[i]? with
    | none => rw [e1] at hx; cases hx
    | some a =>
      rw [e1] at hx
      cases hx
      have hi := (List.getElem?_eq_some_iff.mp e1).1
      have ea := (List.getElem?_eq_some_iff.mp e1).2
      have el : l = l.take i ++ a :: l.drop (i + 1) := by
        rw [← ea, ← List.drop_eq_getElem_cons hi, List.take_append_drop]
      have et : l.take (i + 1) = l.take i ++ [a] := by rw [List.take_add_one, e1]; rfl
      obtain ⟨ρ1, st1, q1, q2⟩ := hb _ a _ ρ st el h.2
      refine ⟨ρ1, st1, q1, ?_⟩
      rw [et]
      have w : ∀ {r : S} {J J' : Env → Store → Prop}, (∀ ρ st, J ρ st → J' ρ st) → r.turnP J Q → r.turnP J' Q := fun {r J J'} i h => by
        cases r <;> first
          | exact i _ _ h
          | exact h
      exact w (fun _ _ z => ⟨hi, z⟩) q2
  · rw [List.length_map, List.take_length] at h
    exact he ρ st h.2
/-- .. that comes to its end -/
theorem fl_nx {α : Type} (l : List α) (e : α → Val) (J : List α → Env → Store → Prop) {cur : Its} {g : FG} {b : FS} {ρ : Env} {st : Store} (hl : l.length < 1000000) (h0 : J [] ρ st) (hc : ∀ d ρ st, J d ρ st → cur st = some (l.map e))
    (hb : ∀ d a r ρ st, l = d ++ a :: r → J d ρ st → ∃ ρ1 st1, g (e a) ρ st = some (ρ1, st1) ∧ (b ρ1 st1).turnP (J (d ++ [a])) fun _ => False) : ∃ ρ' st', fl cur g b bigN 0 ρ st = .nx ρ' st' ∧ J l ρ' st' :=
  fl_rel (Q := fun r => ∃ ρ' st', r = .nx ρ' st' ∧ J l ρ' st') l e J hl h0 hc (fun d a r ρ st h1 h2 => let ⟨ρ1, st1, q1, q2⟩ := hb d a r ρ st h1 h2; ⟨ρ1, st1, q1, by
    cases hr : b ρ1 st1 <;> rw [hr] at q2 <;> first | exact q2 | exact q2.elim⟩) fun ρ st h => ⟨ρ, st, rfl, h⟩
/-- range -/
theorem rngs_map (lo : Int) (n : Nat) : rngs lo n = (List.range n).map fun i => Val.int (lo + (i : Nat)) := rfl
/-- a comprehension as a filter and a map -/
theorem lcl_fm {α : Type} (l : List α) (e : α → Val) (f : α → Option Val) {cur : Its} {g : FG} {tt : FT} {te : FE} {ρ : Env} {st : Store} (hc : cur st = some (l.map e)) (hz : l.length ≤ 10000) (hs : ∀ a ∈ l, lc1 g tt te (e a) ρ st = some (f a, st)) :
    lcl cur g tt te ρ bigN 0 [] st = some (l.filterMap f, st) := by
  have key : ∀ (m : Nat) (d r : List α) (acc : List Val), l = d ++ r → acc.length ≤ d.length → r.length < m → lcl cur g tt te ρ m d.length acc st = some (acc ++ r.filterMap f, st) := by
    intro m
    induction m with
    | zero => intro d r acc _ _ h; omega
    | succ m ih =>
      intro d r acc h1 h2 h3
      unfold lcl
      rw [hc]
      dsimp only
      have hll : l.length = d.length + r.length := by rw [h1, List.length_append]
      cases r with
      | nil =>
        rw [List.getElem?_eq_none (by rw [List.length_map, hll]; simp)]
        simp
      | cons a r =>
        have e1 : (l.map e)[d.length]? = some (e a) := by
          rw [List.getElem?_map, h1, List.getElem?_append_right (Nat.le_refl _), Nat.sub_self]
          rfl
        rw [e1]
        dsimp only
        rw [hs a (by rw [h1]; simp)]
        have h4 : l = (d ++ [a]) ++ r := by rw [h1, List.append_assoc]; rfl
        have h5 : r.length < m := by simpa using h3
        cases ef : f a with
        | none =>
          dsimp only
          have := ih (d ++ [a]) r acc h4 (by rw [List.length_append]; omega) h5
          rw [List.length_append] at this
          rw [List.filterMap_cons_none ef]
          exact this
        | some y =>
          dsimp only
          rw [show Nat.blt acc.length sizeLine = true from Nat.ble_eq_true_of_le (show acc.length + 1 ≤ 16777216 by rw [List.length_cons] at hll; omega)]
          have := ih (d ++ [a]) r (acc ++ [y]) h4 (by rw [List.length_append, List.length_append]; simp; omega) h5
          rw [List.length_append] at this
          rw [List.filterMap_cons_some ef, show acc ++ y :: r.filterMap f = (acc ++ [y]) ++ r.filterMap f by simp]
          exact this
  exact key bigN [] l [] rfl (Nat.le_refl _) (by show l.length < 1000000; omega)
theorem lcl_mp {α : Type} (l : List α) (e : α → Val) (f : α → Val) {cur : Its} {g : FG} {tt : FT} {te : FE} {ρ : Env} {st : Store} (hc : cur st = some (l.map e)) (hz : l.length ≤ 10000) (hs : ∀ a ∈ l, lc1 g tt te (e a) ρ st = some (some (f a), st)) :
    lcl cur g tt te ρ bigN 0 [] st = some (l.map f, st) := by
  rw [lcl_fm l e (fun a => some (f a)) hc hz hs]
  simp
/-- a comprehension that changes the store: by what holds behind each part -/
theorem lcl_rel {α : Type} (l : List α) (e : α → Val) (J : List α → List Val → Store → Prop) {cur : Its} {g : FG} {tt : FT} {te : FE} {ρ : Env} {st : Store} (hz : l.length ≤ 10000) (h0 : J [] [] st) (hc : ∀ d acc st, J d acc st → cur st = some (l.map e))
    (hs : ∀ d a r acc st, l = d ++ a :: r → J d acc st → ∃ o st1, lc1 g tt te (e a) ρ st = some (o, st1) ∧ J (d ++ [a]) (acc ++ o.toList) st1) : ∃ acc st', lcl cur g tt te ρ bigN 0 [] st = some (acc, st') ∧ J l acc st' := by
  obtain ⟨acc, st', h1, h2, h3⟩ := lcl_inv (ρ := ρ) (cur := cur) (g := g) (tt := tt) (te := te) (xs := l.map e) (fun i acc st => i ≤ l.length ∧ J (l.take i) acc st) (by rw [List.length_map]; exact Nat.le_trans hz (by decide)) (fun i acc st h => hc _ _ _ h.2) (fun i x acc st hx h => by
    rw [List.getElem?_map] at hx
    cases e1 : l[i]? with
    | none => rw [e1] at hx; cases hx
    | some a =>
      rw [e1] at hx
      cases hx
      have hi := (List.getElem?_eq_some_iff.mp e1).1
      have ea := (List.getElem?_eq_some_iff.mp e1).2
      have el : l = l.take i ++ a :: l.drop (i + 1) := by
        rw [← ea, ← List.drop_eq_getElem_cons hi, List.take_append_drop]
      have et : l.take (i + 1) = l.take i ++ [a] := by rw [List.take_add_one, e1]; rfl
      obtain ⟨o, st1, q1, q2⟩ := hs _ a _ acc st el h.2
      exact ⟨o, st1, q1, hi, by rw [et]; exact q2⟩) bigN 0 [] st (by rw [List.length_map]; show l.length < 0 + 1000000; omega) (Nat.zero_le _) (Nat.le_refl _) ⟨Nat.zero_le _, by rw [List.take_zero]; exact h0⟩
  rw [List.length_map, List.take_length] at h3
  exact ⟨acc, st', h1, h3⟩
/-! rows of whole numbers -/
abbrev iL (l : List Int) : List Val := l.map Val.int
theorem rev_map {α β : Type} {l : List α} {f : α → β} : (l.map f).reverse = l.reverse.map f := List.map_reverse.symm
theorem len_map {α β : Type} {l : List α} {f : α → β} : (l.map f).length = l.length := List.length_map ..
theorem revF_tup {st : Store} {xs : List Val} {b : Bool} : revF b (.tup xs) st = some (.tup xs.reverse, st) := nd rfl
theorem revF_ro {st : Store} {xs : List Val} {b : Bool} : revF b (.ro xs) st = some (newL b xs.reverse st) := nd rfl
end FL
/-! the mathematics: numbers by a prime, curves -/
namespace FL
open PySem PyProof.Rows L2
theorem log2_small {j : Int} (h0 : 0 < j) (h1 : j < 2 ^ 60) : j.natAbs.log2 < 9000 := by
  have h : j.natAbs < 2 ^ 60 := by omega
  exact Nat.lt_of_lt_of_le (PySem.Flt.log2_lt_of (by decide) h) (by decide)

/-- a curve's worth in whole numbers -/
def pev (ns : List Int) (x : Int) : Int := ns.foldr (fun n a => a * x + n) 0

theorem pev_cons (n : Int) (r : List Int) (x : Int) : pev (n :: r) x = pev r x * x + n := rfl

theorem horner_mod (ns : List Int) (x q : Int) : ns.foldr (fun n a => (a * x + n) % q) (0 % q) = pev ns x % q := by
  induction ns with
  | nil => rfl
  | cons n r ih =>
    rw [List.foldr_cons, ih, pev_cons]
    rw [Int.add_emod, Int.mul_emod, Int.emod_emod, ← Int.mul_emod, ← Int.add_emod]

def nine : List Int := [5, 7, 11, 13, 17, 19, 23, 29, 31]

theorem nine_le {q : Int} (h : q ∈ nine) : 5 ≤ q ∧ q ≤ 31 := by
  simp only [nine, List.mem_cons, List.not_mem_nil, or_false] at h
  omega

theorem six_nat (n d i : Nat) : HT.sIx n d (some (i : Int)) = min i n := HT.sIx_nat n d i

theorem log2_31 {n : Int} (h0 : 0 ≤ n) (h1 : n < 2 ^ 60) : n.natAbs.log2 < 1920 := by
  have h : n.natAbs < 2 ^ 60 := by omega
  exact Nat.lt_of_lt_of_le (PySem.Flt.log2_lt_of (by decide) h) (by decide)

theorem range_mid {n : Nat} {d r : List Nat} {i : Nat} (h : List.range n = d ++ i :: r) : i < n ∧ d = List.range i ∧ d.length = i := by
  have hl : d.length < n := by
    have e := congrArg List.length h
    rw [List.length_range, List.length_append, List.length_cons] at e
    omega
  have e2 : i = d.length := by
    have e := congrArg (fun l : List Nat => l[d.length]?) h
    rw [List.getElem?_range hl, List.getElem?_append_right (Nat.le_refl _), Nat.sub_self] at e
    exact (Option.some.inj e).symm
  have e3 : d = List.range d.length := by
    have e := congrArg (List.take d.length) h
    rw [List.take_append_of_le_length (Nat.le_refl _), List.take_length, List.take_range, Nat.min_eq_left (Nat.le_of_lt hl)] at e
    exact e.symm
  exact ⟨by omega, by rw [e2]; exact e3, e2.symm⟩

abbrev Cg (q a b : Int) : Prop := q ∣ a - b

theorem Cg.refl (q a : Int) : Cg q a a := by
  unfold Cg
  rw [Int.sub_self]
  exact Int.dvd_zero q

theorem Cg.symm {q a b : Int} (h : Cg q a b) : Cg q b a := by
  obtain ⟨k, e⟩ := h
  exact ⟨-k, by grind⟩

theorem Cg.trans {q a b c : Int} (h : Cg q a b) (g : Cg q b c) : Cg q a c := by
  obtain ⟨k, e⟩ := h
  obtain ⟨l, f⟩ := g
  exact ⟨k + l, by grind⟩

theorem Cg.add {q a b c d : Int} (h : Cg q a b) (g : Cg q c d) : Cg q (a + c) (b + d) := by
  obtain ⟨k, e⟩ := h
  obtain ⟨l, f⟩ := g
  exact ⟨k + l, by grind⟩

theorem Cg.sub {q a b c d : Int} (h : Cg q a b) (g : Cg q c d) : Cg q (a - c) (b - d) := by
  obtain ⟨k, e⟩ := h
  obtain ⟨l, f⟩ := g
  exact ⟨k - l, by grind⟩

theorem Cg.mul {q a b c d : Int} (h : Cg q a b) (g : Cg q c d) : Cg q (a * c) (b * d) := by
  obtain ⟨k, e⟩ := h
  obtain ⟨l, f⟩ := g
  exact ⟨k * c + b * l, by grind⟩

theorem Cg.mod (q a : Int) : Cg q (a % q) a := ⟨-(a / q), by
  have := Int.emod_add_mul_ediv a q
  grind⟩

theorem Cg.iff {q a b : Int} : Cg q a b ↔ a % q = b % q := (Int.emod_eq_emod_iff_emod_sub_eq_zero.trans Int.dvd_iff_emod_eq_zero.symm).symm

theorem Cg.eq {q a b : Int} (h : Cg q a b) (a0 : 0 ≤ a) (a1 : a < q) (b0 : 0 ≤ b) (b1 : b < q) : a = b := by
  have := Cg.iff.mp h
  rwa [Int.emod_eq_of_lt a0 a1, Int.emod_eq_of_lt b0 b1] at this

theorem cg_zero {q a : Int} : Cg q a 0 ↔ a % q = 0 := by
  rw [Cg.iff, Int.zero_emod]

/-- each number but 0 has its turned number -/
theorem nine_inv0 : ∀ q ∈ [5, 7, 11, 13, 17, 19, 23, 29, 31], ∀ a ∈ List.range q, a = 0 ∨ ∃ b ∈ List.range q, (a * b) % q = 1 := by decide +kernel

theorem nine_inv {q a : Int} (hq : q ∈ nine) (h0 : 0 < a) (h1 : a < q) : ∃ b, 0 < b ∧ b < q ∧ a * b % q = 1 := by
  have h5 := nine_le hq
  have hn : q.toNat ∈ [5, 7, 11, 13, 17, 19, 23, 29, 31] := by
    simp only [nine, List.mem_cons, List.not_mem_nil, or_false] at hq ⊢
    omega
  rcases nine_inv0 q.toNat hn a.toNat (List.mem_range.mpr (by omega)) with h | ⟨b, hb, h⟩
  · omega
  · have hb' := List.mem_range.mp hb
    have e : a * (b : Int) % q = 1 := by
      have ea : ((a.toNat : Nat) : Int) = a := Int.toNat_of_nonneg (by omega)
      have eq : ((q.toNat : Nat) : Int) = q := Int.toNat_of_nonneg (by omega)
      rw [← ea, ← eq]
      exact_mod_cast h
    refine ⟨b, ?_, by omega, e⟩
    have : b ≠ 0 := fun z => by
      subst z
      simp at e
    omega

theorem cg_inv {q a : Int} (hq : q ∈ nine) (h : ¬ Cg q a 0) : ∃ b, Cg q (a * b) 1 := by
  have h5 := nine_le hq
  have h1 : 0 ≤ a % q := Int.emod_nonneg _ (by omega)
  have h2 : a % q < q := Int.emod_lt_of_pos _ (by omega)
  have h3 : a % q ≠ 0 := fun z => h (cg_zero.mpr z)
  obtain ⟨b, _, _, e⟩ := nine_inv hq (a := a % q) (by omega) h2
  refine ⟨b, (Cg.mul (Cg.mod q a).symm (Cg.refl q b)).trans (Cg.iff.mpr ?_)⟩
  rw [e]
  exact (Int.emod_eq_of_lt (by decide) (by omega)).symm

theorem cg_cancel {q a b c : Int} (hq : q ∈ nine) (hc : ¬ Cg q c 0) (h : Cg q (a * c) (b * c)) : Cg q a b := by
  obtain ⟨d, hd⟩ := cg_inv hq hc
  have e1 : Cg q (a * c * d) a := by
    have := (Cg.refl q a).mul hd
    rw [Int.mul_one, ← Int.mul_assoc] at this
    exact this
  have e2 : Cg q (b * c * d) b := by
    have := (Cg.refl q b).mul hd
    rw [Int.mul_one, ← Int.mul_assoc] at this
    exact this
  exact e1.symm.trans ((h.mul (Cg.refl q d)).trans e2)

theorem cg_mul_ne {q a b : Int} (hq : q ∈ nine) (ha : ¬ Cg q a 0) (hb : ¬ Cg q b 0) : ¬ Cg q (a * b) 0 := fun h => ha (cg_cancel hq hb (by rw [Int.zero_mul]; exact h))

theorem cg_ne {q a b : Int} (a0 : 0 ≤ a) (a1 : a < q) (b0 : 0 ≤ b) (b1 : b < q) (h : a ≠ b) : ¬ Cg q (a - b) 0 := fun z => h (Cg.eq (by
  unfold Cg at z ⊢
  rwa [Int.sub_zero] at z) a0 a1 b0 b1)

/-- D of n :: r by a: what is left when the worth at a is put out -/
def dvt (a : Int) : List Int → List Int
  | [] => []
  | m :: r => pev (m :: r) a :: dvt a r

theorem dvt_len (a : Int) : ∀ r, (dvt a r).length = r.length
  | [] => rfl
  | _ :: r => congrArg (· + 1) (dvt_len a r)

theorem dvt_pev (a x : Int) : ∀ (n : Int) (r : List Int), pev (n :: r) x - pev (n :: r) a = (x - a) * pev (dvt a r) x
  | n, [] => by
    simp [pev, dvt]
  | n, m :: r => by
    have ih := dvt_pev a x m r
    rw [pev_cons n (m :: r) x, pev_cons n (m :: r) a, dvt, pev_cons (pev (m :: r) a) (dvt a r) x]
    generalize pev (m :: r) x = A at ih ⊢
    generalize pev (m :: r) a = B at ih ⊢
    generalize pev (dvt a r) x = C at ih ⊢
    have e : A = B + (x - a) * C := by omega
    rw [e]
    grind

theorem dvt_zero {q a : Int} : ∀ {r : List Int}, (∀ c ∈ dvt a r, Cg q c 0) → ∀ c ∈ r, Cg q c 0
  | [], _, _, h => by cases h
  | m :: r, h, c, hc => by
    have hr := dvt_zero (r := r) fun c hc => h c (List.mem_cons_of_mem _ hc)
    rcases List.mem_cons.mp hc with rfl | hc
    · have h1 : Cg q (pev (c :: r) a) 0 := h _ (List.mem_cons_self ..)
      have h2 : Cg q (pev r a) 0 := by
        cases r with
        | nil => exact Cg.refl q 0
        | cons m' r' => exact h _ (List.mem_cons_of_mem _ (List.mem_cons_self ..))
      rw [pev_cons] at h1
      have h3 := h1.sub (h2.mul (Cg.refl q a))
      have e : pev r a * a + c - pev r a * a = c := by grind
      rw [e, Int.zero_mul] at h3
      exact h3
    · exact hr c hc

def Uneq (q : Int) (xs : List Int) : Prop := xs.Pairwise fun x y => ¬ Cg q (x - y) 0

/-- a curve that comes to 0 at as many places as it has numbers is nought -/
theorem roots {q : Int} (hq : q ∈ nine) : ∀ (xs p : List Int), p.length ≤ xs.length → Uneq q xs → (∀ x ∈ xs, Cg q (pev p x) 0) → ∀ c ∈ p, Cg q c 0
  | [], p, hl, _, _, c, hc => by
    have : p = [] := List.length_eq_zero_iff.mp (by simpa using hl)
    subst this
    cases hc
  | a :: xs, [], _, _, _, c, hc => by cases hc
  | a :: xs, n :: r, hl, hu, h0, c, hc => by
    have hu' := List.pairwise_cons.mp hu
    have ha : Cg q (pev (n :: r) a) 0 := h0 a (List.mem_cons_self ..)
    have hd : ∀ x ∈ xs, Cg q (pev (dvt a r) x) 0 := fun x hx => by
      have hx0 := h0 x (List.mem_cons_of_mem _ hx)
      have e := dvt_pev a x n r
      have hz : Cg q ((x - a) * pev (dvt a r) x) 0 := by
        rw [← e]
        have := hx0.sub ha
        rwa [Int.sub_zero] at this
      have hne : ¬ Cg q (x - a) 0 := fun z => hu'.1 x hx (by
        have := (Cg.refl q 0).sub z
        have e2 : (0 : Int) - (x - a) = a - x := by omega
        rw [e2, Int.sub_zero] at this
        exact this)
      refine cg_cancel hq hne ?_
      rw [Int.zero_mul, Int.mul_comm]
      exact hz
    have hD := roots hq xs (dvt a r) (by rw [dvt_len]; simpa using hl) hu'.2 hd
    have hr := dvt_zero hD
    rcases List.mem_cons.mp hc with rfl | hc
    · have h2 : Cg q (pev r a) 0 := by
        cases r with
        | nil => exact Cg.refl q 0
        | cons m r' => exact hD _ (List.mem_cons_self ..)
      rw [pev_cons] at ha
      have h3 := ha.sub (h2.mul (Cg.refl q a))
      have e : pev r a * a + c - pev r a * a = c := by grind
      rw [e, Int.zero_mul] at h3
      exact h3
    · exact hr c hc

def subL : List Int → List Int → List Int
  | [], [] => []
  | a :: p, [] => a :: p
  | [], b :: r => -b :: subL [] r
  | a :: p, b :: r => (a - b) :: subL p r

theorem subL_pev (x : Int) : ∀ p r : List Int, pev (subL p r) x = pev p x - pev r x
  | [], [] => by simp [subL, pev]
  | a :: p, [] => by simp [subL, pev]
  | [], b :: r => by
    have := subL_pev x [] r
    rw [subL, pev_cons, pev_cons, this]
    simp [pev]
    grind
  | a :: p, b :: r => by
    have := subL_pev x p r
    rw [subL, pev_cons, pev_cons, pev_cons, this]
    grind

theorem subL_len : ∀ p r : List Int, (subL p r).length = max p.length r.length
  | [], [] => rfl
  | a :: p, [] => by simp [subL]
  | [], b :: r => by
    have := subL_len [] r
    simp [subL, this]
  | a :: p, b :: r => by
    have := subL_len p r
    simp only [subL, List.length_cons, this]
    omega

theorem subL_zero {q : Int} : ∀ {p r : List Int}, p.length = r.length → (∀ c ∈ p, 0 ≤ c ∧ c < q) → (∀ c ∈ r, 0 ≤ c ∧ c < q) → (∀ c ∈ subL p r, Cg q c 0) → p = r
  | [], [], _, _, _, _ => rfl
  | a :: p, [], h, _, _, _ => by simp at h
  | [], b :: r, h, _, _, _ => by simp at h
  | a :: p, b :: r, h, hp, hr, h0 => by
    have ha := hp a (List.mem_cons_self ..)
    have hb := hr b (List.mem_cons_self ..)
    have h1 : Cg q (a - b) 0 := h0 _ (List.mem_cons_self ..)
    have e : a = b := Cg.eq (by
      unfold Cg at h1 ⊢
      rwa [Int.sub_zero] at h1) ha.1 ha.2 hb.1 hb.2
    rw [e, subL_zero (by simpa using h) (fun c hc => hp c (List.mem_cons_of_mem _ hc)) (fun c hc => hr c (List.mem_cons_of_mem _ hc)) fun c hc => h0 c (List.mem_cons_of_mem _ hc)]

/-- two curves of as many numbers, alike at as many unlike places, are one -/
theorem curves_eq {q : Int} (hq : q ∈ nine) {xs p r : List Int} (hu : Uneq q xs) (hl : p.length = r.length) (hx : p.length ≤ xs.length) (hp : ∀ c ∈ p, 0 ≤ c ∧ c < q) (hr : ∀ c ∈ r, 0 ≤ c ∧ c < q)
    (h : ∀ x ∈ xs, Cg q (pev p x) (pev r x)) : p = r := by
  refine subL_zero hl hp hr (roots hq xs (subL p r) (by rw [subL_len]; omega) hu fun x hx => ?_)
  rw [subL_pev]
  have := (h x hx).sub (Cg.refl q (pev r x))
  rwa [Int.sub_self] at this

/-- two curves alike at as many unlike places as the longer one has numbers have the same worths -/
theorem curves_cg {q : Int} (hq : q ∈ nine) {xs p r : List Int} (hu : Uneq q xs) (hp : p.length ≤ xs.length) (hr : r.length ≤ xs.length) (h : ∀ x ∈ xs, Cg q (pev p x) (pev r x)) (y : Int) : Cg q (pev p y) (pev r y) := by
  have h0 := roots hq xs (subL p r) (by rw [subL_len]; omega) hu fun x hx => by
    rw [subL_pev]
    have := (h x hx).sub (Cg.refl q (pev r x))
    rwa [Int.sub_self] at this
  have key : ∀ l : List Int, (∀ c ∈ l, Cg q c 0) → Cg q (pev l y) 0 := by
    intro l
    induction l with
    | nil => intro _; exact Cg.refl q 0
    | cons n s ih =>
      intro hl
      rw [pev_cons]
      have := ((ih fun c hc => hl c (List.mem_cons_of_mem _ hc)).mul (Cg.refl q y)).add (hl n (List.mem_cons_self ..))
      rwa [Int.zero_mul, Int.zero_add] at this
  have := key _ h0
  rw [subL_pev] at this
  unfold Cg at this ⊢
  rwa [Int.sub_zero] at this

theorem pev_at0 (l : List Int) : pev l 0 = l.getD 0 0 := by
  cases l with
  | nil => rfl
  | cons a r =>
    rw [pev_cons, Int.mul_zero, Int.zero_add]
    rfl

/-- the product of the gaps from x to all others -/
def gapP (x : Int) (ns : List Int) : Int := ns.foldl (fun a n => a * (x - n)) 1

theorem gap_app (x : Int) (ns : List Int) (n : Int) : gapP x (ns ++ [n]) = gapP x ns * (x - n) := by
  unfold gapP
  rw [List.foldl_append]
  rfl

def offAt (ns : List Int) (i : Nat) : List Int := ns.take i ++ ns.drop (i + 1)

theorem gap_ne {q x : Int} (hq : q ∈ nine) : ∀ ns : List Int, (∀ n ∈ ns, ¬ Cg q (x - n) 0) → ¬ Cg q (gapP x ns) 0 := by
  intro ns
  suffices key : ∀ (ns : List Int) (a : Int), ¬ Cg q a 0 → (∀ n ∈ ns, ¬ Cg q (x - n) 0) → ¬ Cg q (ns.foldl (fun a n => a * (x - n)) a) 0 by
    refine key ns 1 fun h => ?_
    have h5 := nine_le hq
    have := cg_zero.mp h
    rw [Int.emod_eq_of_lt (by decide) (by omega)] at this
    cases this
  intro ns
  induction ns with
  | nil => intro a ha _; exact ha
  | cons n r ih =>
    intro a ha h
    exact ih _ (cg_mul_ne hq ha (h n (List.mem_cons_self ..))) fun m hm => h m (List.mem_cons_of_mem _ hm)

/-- unlike places below the prime -/
def PlacesL (q : Int) (ns : List Int) : Prop := (∀ n ∈ ns, 0 ≤ n ∧ n < q) ∧ ns.Nodup

theorem PlacesL.off {q : Int} {ns : List Int} (h : PlacesL q ns) {i : Nat} {n : Int} (hi : ns[i]? = some n) : ∀ m ∈ offAt ns i, ¬ Cg q (n - m) 0 := by
  intro m hm
  have hn := h.1 n (List.mem_of_getElem? hi)
  obtain ⟨hl, he⟩ := List.getElem?_eq_some_iff.mp hi
  have hm' : m ∈ ns ∧ n ≠ m := by
    rcases List.mem_append.mp hm with z | z
    · refine ⟨List.mem_of_mem_take z, fun e => ?_⟩
      obtain ⟨j, hj, ej⟩ := List.mem_take_iff_getElem.mp z
      have := nodup_ne h.2 (i := j) (j := i) (x := n) (by rw [e, ← ej]; exact List.getElem?_eq_getElem (by omega)) hi
      omega
    · refine ⟨List.mem_of_mem_drop z, fun e => ?_⟩
      obtain ⟨j, hj, ej⟩ := List.mem_iff_getElem.mp z
      rw [List.getElem_drop] at ej
      have hj' : i + 1 + j < ns.length := by rw [List.length_drop] at hj; omega
      have := nodup_ne h.2 (i := i + 1 + j) (j := i) (x := n) (by rw [e, ← ej]; exact List.getElem?_eq_getElem hj') hi
      omega
  have hb := h.1 m hm'.1
  exact cg_ne hn.1 hn.2 hb.1 hb.2 hm'.2

theorem mod_step {q a g b : Int} (h : Cg q a g) (c : Int) (e : b = a * c % q) : Cg q b (g * c) := by
  rw [e]
  exact (Cg.mod q _).trans (h.mul (Cg.refl q c))

theorem gap_perm {x : Int} {a b : List Int} (h : a.Perm b) : gapP x a = gapP x b := by
  unfold gapP
  suffices key : ∀ c : Int, a.foldl (fun a n => a * (x - n)) c = b.foldl (fun a n => a * (x - n)) c from key 1
  induction h with
  | nil => intro c; rfl
  | cons _ _ ih => intro c; exact ih _
  | swap m n l =>
    intro c
    show l.foldl _ (c * (x - n) * (x - m)) = l.foldl _ (c * (x - m) * (x - n))
    rw [Int.mul_right_comm]
  | trans _ _ ih1 ih2 => intro c; rw [ih1, ih2]

theorem uneq_places {q : Int} {ns : List Int} (h : PlacesL q ns) : Uneq q ns := by
  unfold Uneq
  refine List.Pairwise.imp_of_mem (fun {a b} ha hb hab => ?_) h.2
  exact cg_ne (h.1 a ha).1 (h.1 a ha).2 (h.1 b hb).1 (h.1 b hb).2 hab

theorem gap_has {q x : Int} : ∀ {ns : List Int}, x ∈ ns → Cg q (gapP x ns) 0 := by
  intro ns h
  unfold gapP
  suffices key : ∀ (ns : List Int) (a : Int), (x ∈ ns ∨ Cg q a 0) → Cg q (ns.foldl (fun a n => a * (x - n)) a) 0 from key ns 1 (.inl h)
  intro ns
  induction ns with
  | nil =>
    intro a h
    exact h.elim (fun z => by cases z) id
  | cons n r ih =>
    intro a h
    refine ih _ ?_
    rcases h with h | h
    · rcases List.mem_cons.mp h with rfl | h
      · right
        show Cg q (a * (x - x)) 0
        rw [Int.sub_self, Int.mul_zero]
        exact Cg.refl _ _
      · exact .inl h
    · right
      have := h.mul (Cg.refl q (x - n))
      rwa [Int.zero_mul] at this

structure Comp (q n t : Int) : Prop where
  prime : q ∈ nine
  n3 : 3 ≤ n
  n7 : n ≤ 7
  nq : n < q
  t1 : 1 ≤ t
  tn : 2 * t < n

theorem pop_at {i : Int} {n : Nat} (h0 : 0 ≤ i) (h1 : i < (n : Int)) : seqIndex? i n = some i.toNat := by
  unfold seqIndex?
  have e : ¬ i < 0 := by omega
  simp [e, h0, h1]

def rngI (lo : Int) (n : Nat) : List Int := (List.range n).map fun i => lo + (i : Nat)

/-- what is left, what was drawn, of lo .. q - 1 -/
structure Drawn (lo q : Int) (ls ss : List Int) : Prop where
  nd : (ls ++ ss).Nodup
  low : ∀ n ∈ ls ++ ss, lo ≤ n ∧ n < q
  num : ((ls.length + ss.length : Nat) : Int) = q - lo

theorem Drawn.start {lo q : Int} (h : lo ≤ q) : Drawn lo q (rngI lo (q - lo).toNat) [] := by
  unfold rngI
  refine ⟨?_, fun n hn => ?_, ?_⟩
  · rw [List.append_nil]
    exact List.Pairwise.map _ (fun a b hab e => hab (by omega)) List.nodup_range
  · rw [List.append_nil] at hn
    obtain ⟨i, hi, rfl⟩ := List.mem_map.mp hn
    have := List.mem_range.mp hi
    omega
  · rw [List.length_map, List.length_range, List.length_nil]
    omega

theorem erase_perm : ∀ {l : List Int} {j : Nat} {x : Int}, l[j]? = some x → (x :: l.eraseIdx j).Perm l
  | [], j, x, h => by simp at h
  | a :: r, 0, x, h => by
    simp at h
    subst h
    exact List.Perm.refl _
  | a :: r, j + 1, x, h => by
    have ih := erase_perm (l := r) (j := j) (x := x) (by simpa using h)
    exact (List.Perm.swap a x _).trans (ih.cons a)

theorem draw_perm {ls ss : List Int} {j : Nat} {x : Int} (h : ls[j]? = some x) : (ls.eraseIdx j ++ (ss ++ [x])).Perm (ls ++ ss) := by
  have h1 : (ls.eraseIdx j ++ (ss ++ [x])).Perm (x :: (ls.eraseIdx j ++ ss)) := by
    rw [← List.append_assoc]
    exact List.perm_append_singleton _ _
  exact h1.trans (List.Perm.append_right ss (erase_perm h))

theorem Drawn.step {lo q : Int} {ls ss : List Int} {j : Nat} {x : Int} (d : Drawn lo q ls ss) (h : ls[j]? = some x) : Drawn lo q (ls.eraseIdx j) (ss ++ [x]) := by
  have hp := draw_perm (ss := ss) h
  refine ⟨hp.nodup_iff.mpr d.nd, fun n hn => d.low n (hp.mem_iff.mp hn), ?_⟩
  have := hp.length_eq
  have := d.num
  simp only [List.length_append] at *
  omega

theorem Drawn.places {lo q : Int} {ls ss : List Int} (d : Drawn lo q ls ss) (h : 0 ≤ lo) : PlacesL q ss :=
  ⟨fun n hn => by have := d.low n (List.mem_append_right _ hn); omega, (List.nodup_append.mp d.nd).2.1⟩

theorem ixN_nat {n i : Nat} (h : i < n) : ixN n (i : Int) = some i := by
  unfold ixN
  simp [h]

theorem rngI_get {lo : Int} {n i : Nat} (h : i < n) : (rngI lo n)[i]? = some (lo + (i : Nat)) := by
  unfold rngI
  rw [List.getElem?_map, List.getElem?_range h]
  rfl

theorem rngI_len (lo : Int) (n : Nat) : (rngI lo n).length = n := by
  unfold rngI
  rw [List.length_map, List.length_range]

theorem filter_yes {p : Int → Bool} {l : List Int} {x : Int} (h : p x = true) : (l ++ [x]).filter p = l.filter p ++ [x] := by
  rw [List.filter_append, List.filter_cons_of_pos h, List.filter_nil]

theorem filter_no {p : Int → Bool} {l : List Int} {x : Int} (h : p x = false) : (l ++ [x]).filter p = l.filter p := by
  rw [List.filter_append, List.filter_cons_of_neg (by rw [h]; exact Bool.false_ne_true), List.filter_nil, List.append_nil]

/-- a curve by (x - a), the number ahead told -/
def wn (q a u : Int) (ns : List Int) : List Int := List.zipWith (fun u v => (u - v * a) % q) (u :: ns) ns ++ (u :: ns).drop ns.length

theorem wn_cons (q a u m : Int) (r : List Int) : wn q a u (m :: r) = (u - m * a) % q :: wn q a m r := rfl

theorem wn_len (q a : Int) : ∀ (u : Int) (ns : List Int), (wn q a u ns).length = ns.length + 1
  | _, [] => rfl
  | u, m :: r => by rw [wn_cons, List.length_cons, wn_len q a m r, List.length_cons]

theorem wn_pev {q a x : Int} : ∀ (u : Int) (ns : List Int), Cg q (pev (wn q a u ns) x) (pev (u :: ns) x - a * pev ns x)
  | u, [] => by
    have e : pev [u] x - a * pev [] x = pev [u] x := by
      show _ - a * 0 = _
      rw [Int.mul_zero, Int.sub_zero]
    rw [e]
    exact Cg.refl _ _
  | u, m :: r => by
    have ih := wn_pev (q := q) (a := a) (x := x) m r
    rw [wn_cons, pev_cons, pev_cons u (m :: r)]
    have h := (ih.mul (Cg.refl q x)).add (Cg.mod q (u - m * a))
    have e : (pev (m :: r) x - a * pev r x) * x + (u - m * a) = pev (m :: r) x * x + u - a * pev (m :: r) x := by
      rw [pev_cons m r]
      grind
    rw [e] at h
    exact h

theorem wn_low {q a : Int} (h0 : 0 < q) : ∀ (u : Int) (ns : List Int), (0 ≤ u ∧ u < q) → (∀ n ∈ ns, 0 ≤ n ∧ n < q) → ∀ n ∈ wn q a u ns, 0 ≤ n ∧ n < q
  | u, [], hu, _, n, hn => by
    rw [List.mem_singleton.mp hn]
    exact hu
  | u, m :: r, hu, h, n, hn => by
    rw [wn_cons] at hn
    rcases List.mem_cons.mp hn with rfl | hn
    · exact ⟨Int.emod_nonneg _ (Int.ne_of_gt h0), Int.emod_lt_of_pos _ h0⟩
    · exact wn_low h0 m r (h m (List.mem_cons_self ..)) (fun n hn => h n (List.mem_cons_of_mem _ hn)) n hn

/-- the first j done -/
def wnJ (q a : Int) (ns : List Int) (j : Nat) : List Int := (List.zipWith (fun u v => (u - v * a) % q) (0 :: ns) ns).take j ++ (0 :: ns).drop j

theorem wnJ_len {q a : Int} {ns : List Int} {j : Nat} (h : j ≤ ns.length) : (wnJ q a ns j).length = ns.length + 1 := by
  unfold wnJ
  simp only [List.length_append, List.length_take, List.length_zipWith, List.length_drop, List.length_cons]
  omega

theorem wnJ_at {q a : Int} {ns : List Int} {j : Nat} (h : j < ns.length) : ∃ u, (0 :: ns)[j]? = some u ∧ (wnJ q a ns j)[j]? = some u := by
  have h1 : (0 :: ns)[j]? = some ((0 :: ns)[j]'(by simp; omega)) := List.getElem?_eq_getElem _
  refine ⟨_, h1, ?_⟩
  unfold wnJ
  have e : ((List.zipWith (fun u v => (u - v * a) % q) (0 :: ns) ns).take j).length = j := by
    simp only [List.length_take, List.length_zipWith, List.length_cons]
    omega
  rw [List.getElem?_append_right (by omega), e, Nat.sub_self, List.getElem?_drop, Nat.add_zero]
  exact h1

theorem wnJ_next {q a : Int} {ns : List Int} {j : Nat} {u v : Int} (hu : (0 :: ns)[j]? = some u) (hv : ns[j]? = some v) : (wnJ q a ns j).set j ((u - v * a) % q) = wnJ q a ns (j + 1) := by
  have hj := (List.getElem?_eq_some_iff.mp hv).1
  unfold wnJ
  have e : ((List.zipWith (fun u v => (u - v * a) % q) (0 :: ns) ns).take j).length = j := by
    simp only [List.length_take, List.length_zipWith, List.length_cons]
    omega
  have ez : (List.zipWith (fun u v => (u - v * a) % q) (0 :: ns) ns)[j]? = some ((u - v * a) % q) := by
    rw [List.getElem?_zipWith, hu, hv]
  rw [List.set_append_right _ _ (by omega), e, Nat.sub_self, List.take_add_one, ez]
  obtain ⟨hl, hg⟩ := List.getElem?_eq_some_iff.mp hu
  rw [List.drop_eq_getElem_cons hl, List.set_cons_zero, List.append_assoc]
  rfl

/-- the weight of place i: below the prime, over by under -/
def IsW (q x : Int) (ns : List Int) (i : Nat) (w : Int) : Prop := (0 ≤ w ∧ w < q) ∧ ∀ n, ns[i]? = some n → Cg q (w * gapP n (offAt ns i)) (gapP x (offAt ns i))

theorem IsW.one {q x : Int} {ns : List Int} {i : Nat} {n v w : Int} (hq : q ∈ nine) (hn : PlacesL q ns) (hi : ns[i]? = some n) (hv : IsW q x ns i v) (hw : IsW q x ns i w) : v = w :=
  Cg.eq (cg_cancel hq (gap_ne hq _ (hn.off hi)) ((hv.2 n hi).trans (hw.2 n hi).symm)) hv.1.1 hv.1.2 hw.1.1 hw.1.2

/-- the weights of all places -/
def IsWs (q x : Int) (ns ws : List Int) : Prop := ws.length = ns.length ∧ ∀ (i : Nat) (w : Int), ws[i]? = some w → IsW q x ns i w

theorem IsWs.one {q x : Int} {ns vs ws : List Int} (hq : q ∈ nine) (hn : PlacesL q ns) (hv : IsWs q x ns vs) (hw : IsWs q x ns ws) : vs = ws := by
  apply List.ext_getElem?
  intro i
  by_cases h : i < ns.length
  · have e1 := List.getElem?_eq_getElem (l := vs) (i := i) (by rw [hv.1]; exact h)
    have e2 := List.getElem?_eq_getElem (l := ws) (i := i) (by rw [hw.1]; exact h)
    rw [e1, e2]
    exact congrArg some (IsW.one hq hn (List.getElem?_eq_getElem h) (hv.2 i _ e1) (hw.2 i _ e2))
  · rw [List.getElem?_eq_none (by rw [hv.1]; omega), List.getElem?_eq_none (by rw [hw.1]; omega)]

theorem IsWs.low {q x : Int} {ns ws : List Int} (h : IsWs q x ns ws) : ∀ w ∈ ws, 0 ≤ w ∧ w < q := fun w hw => by
  obtain ⟨i, hi⟩ := List.mem_iff_getElem?.mp hw
  exact (h.2 i w hi).1

/-- a curve through all points, as many numbers -/
structure Thru (q : Int) (ps : List (Int × Int)) (cs : List Int) : Prop where
  num : cs.length = ps.length
  low : ∀ c ∈ cs, 0 ≤ c ∧ c < q
  has : ∀ p ∈ ps, Cg q (pev cs p.1) p.2

theorem Thru.one {q : Int} {ps : List (Int × Int)} {cs ds : List Int} (hq : q ∈ nine) (hp : PlacesL q (ps.map (·.1))) (h : Thru q ps cs) (g : Thru q ps ds) : cs = ds := by
  refine curves_eq hq (uneq_places hp) (h.num.trans g.num.symm) (by rw [List.length_map, h.num]; exact Nat.le_refl _) h.low g.low fun x hx => ?_
  obtain ⟨p, hp, rfl⟩ := List.mem_map.mp hx
  exact (h.has p hp).trans (g.has p hp).symm

theorem fst_get {ps : List (Int × Int)} {i : Nat} {p : Int × Int} (h : ps[i]? = some p) : (ps.map (·.1))[i]? = some p.1 := by rw [List.getElem?_map, h]; rfl

theorem gap_last {q : Int} (hq : q ∈ nine) {ns : List Int} (hp : PlacesL q ns) {j : Nat} {n : Int} (h : ns[j]? = some n) : ¬ Cg q (gapP n (ns.take j)) 0 :=
  gap_ne hq _ fun m hm => hp.off h m (List.mem_append_left _ hm)

/-- one more point -/
def addT (q t : Int) (fs ks : List Int) : List Int := List.zipWith (fun u v => (u + t * v) % q) (fs ++ [0]) ks

theorem addT_pev {q t x : Int} : ∀ {fs ks : List Int}, ks.length = fs.length + 1 → Cg q (pev (addT q t fs ks) x) (pev fs x + t * pev ks x)
  | [], [], h => by cases h
  | [], [k], _ => by
    show Cg q (0 * x + (0 + t * k) % q) (0 + t * (0 * x + k))
    rw [Int.zero_mul, Int.zero_add, Int.zero_add, Int.zero_add, Int.zero_add]
    exact Cg.mod q _
  | [], _ :: _ :: _, h => by simp at h
  | f :: fs, [], h => by cases h
  | f :: fs, k :: ks, h => by
    have ih := addT_pev (q := q) (t := t) (x := x) (fs := fs) (ks := ks) (by simpa using h)
    have e : addT q t (f :: fs) (k :: ks) = (f + t * k) % q :: addT q t fs ks := rfl
    rw [e, pev_cons, pev_cons f fs, pev_cons k ks]
    have h := (ih.mul (Cg.refl q x)).add (Cg.mod q (f + t * k))
    have e2 : (pev fs x + t * pev ks x) * x + (f + t * k) = pev fs x * x + f + t * (pev ks x * x + k) := by grind
    rw [e2] at h
    exact h

theorem addT_len {q t : Int} {fs ks : List Int} (h : ks.length = fs.length + 1) : (addT q t fs ks).length = fs.length + 1 := by
  unfold addT
  rw [List.length_zipWith, List.length_append, h]
  simp

theorem addT_low {q t : Int} (h0 : 0 < q) {fs ks : List Int} : ∀ n ∈ addT q t fs ks, 0 ≤ n ∧ n < q := fun n hn => by
  obtain ⟨i, hi⟩ := List.mem_iff_getElem?.mp hn
  unfold addT at hi
  rw [List.getElem?_zipWith] at hi
  cases e : (fs ++ [0])[i]? with
  | none => rw [e] at hi; simp at hi
  | some u =>
    cases e' : ks[i]? with
    | none => rw [e, e'] at hi; simp at hi
    | some v =>
      rw [e, e'] at hi
      cases hi
      exact ⟨Int.emod_nonneg _ (Int.ne_of_gt h0), Int.emod_lt_of_pos _ h0⟩

def sumTo (s : Nat → Int) : Nat → Int
  | 0 => 0
  | m + 1 => sumTo s m + s m

theorem sum_cg {q : Int} {s t : Nat → Int} : ∀ {m : Nat}, (∀ i, i < m → Cg q (s i) (t i)) → Cg q (sumTo s m) (sumTo t m)
  | 0, _ => Cg.refl _ _
  | m + 1, h => (sum_cg fun i hi => h i (Nat.lt_succ_of_lt hi)).add (h m (Nat.lt_succ_self m))

theorem sum_none {q : Int} {s : Nat → Int} : ∀ {m : Nat}, (∀ i, i < m → Cg q (s i) 0) → Cg q (sumTo s m) 0
  | 0, _ => Cg.refl _ _
  | m + 1, h => by
    have := (sum_none fun i hi => h i (Nat.lt_succ_of_lt hi)).add (h m (Nat.lt_succ_self m))
    rwa [Int.add_zero] at this

theorem sum_pick {q : Int} {s : Nat → Int} {k : Nat} : ∀ {m : Nat}, k < m → (∀ i, i < m → i ≠ k → Cg q (s i) 0) → Cg q (sumTo s m) (s k)
  | 0, h, _ => by cases h
  | m + 1, h, z => by
    by_cases e : k = m
    · subst e
      have := (sum_none (s := s) fun i hi => z i (Nat.lt_succ_of_lt hi) (Nat.ne_of_lt hi)).add (Cg.refl q (s k))
      rwa [Int.zero_add] at this
    · have := (sum_pick (m := m) (by omega) fun i hi => z i (Nat.lt_succ_of_lt hi)).add (z m (Nat.lt_succ_self m) fun x => e x.symm)
      rwa [Int.add_zero] at this

def scL (c : Int) (p : List Int) : List Int := p.map (c * ·)

theorem scL_pev (c : Int) : ∀ (p : List Int) (x : Int), pev (scL c p) x = c * pev p x
  | [], x => by
    show 0 = c * 0
    rw [Int.mul_zero]
  | n :: r, x => by
    have ih := scL_pev c r x
    show pev (scL c r) x * x + c * n = c * (pev r x * x + n)
    rw [ih]
    grind

/-- curves added, each so many times -/
def mixL (t : Nat → Int) (G : Nat → List Int) : Nat → List Int
  | 0 => []
  | m + 1 => subL (mixL t G m) (scL (-(t m)) (G m))

theorem mixL_pev (t : Nat → Int) (G : Nat → List Int) (x : Int) : ∀ m, pev (mixL t G m) x = sumTo (fun i => t i * pev (G i) x) m
  | 0 => rfl
  | m + 1 => by
    have ih := mixL_pev t G x m
    rw [mixL, subL_pev, scL_pev, ih, sumTo]
    grind

theorem mixL_len {t : Nat → Int} {G : Nat → List Int} {n : Nat} : ∀ {m : Nat}, (∀ i, i < m → (G i).length ≤ n) → (mixL t G m).length ≤ n
  | 0, _ => Nat.zero_le _
  | m + 1, h => by
    have ih := mixL_len (t := t) (m := m) fun i hi => h i (Nat.lt_succ_of_lt hi)
    have := h m (Nat.lt_succ_self m)
    rw [mixL, subL_len]
    unfold scL
    rw [List.length_map]
    omega

/-- the curve that is nought at these places -/
def nilAt : List Int → List Int
  | [] => [1]
  | n :: r => subL (0 :: nilAt r) (scL n (nilAt r))

theorem nilAt_len : ∀ ms : List Int, (nilAt ms).length = ms.length + 1
  | [] => rfl
  | n :: r => by
    rw [nilAt, subL_len]
    unfold scL
    rw [List.length_map, List.length_cons, nilAt_len r, List.length_cons]
    omega

theorem gap_cons (x n : Int) (r : List Int) : gapP x (n :: r) = (x - n) * gapP x r := by
  have e := gap_perm (x := x) (List.perm_append_singleton n r)
  rw [gap_app] at e
  rw [← e, Int.mul_comm]

theorem nilAt_pev (x : Int) : ∀ ms : List Int, pev (nilAt ms) x = gapP x ms
  | [] => by
    show 0 * x + 1 = 1
    rw [Int.zero_mul, Int.zero_add]
  | n :: r => by
    have ih := nilAt_pev x r
    rw [nilAt, subL_pev, scL_pev, pev_cons, ih, gap_cons]
    grind

theorem off_has {ns : List Int} {i k : Nat} {n : Int} (h : ns[k]? = some n) (hik : k ≠ i) : n ∈ offAt ns i := by
  unfold offAt
  obtain ⟨hl, rfl⟩ := List.getElem?_eq_some_iff.mp h
  by_cases hk : k < i
  · exact List.mem_append_left _ (List.mem_take_iff_getElem.mpr ⟨k, by omega, rfl⟩)
  · refine List.mem_append_right _ (List.mem_iff_getElem.mpr ⟨k - (i + 1), by rw [List.length_drop]; omega, ?_⟩)
    rw [List.getElem_drop]
    congr 1
    omega

theorem off_len {ns : List Int} {i : Nat} (h : i < ns.length) : (offAt ns i).length + 1 = ns.length := by
  unfold offAt
  rw [List.length_append, List.length_take, List.length_drop]
  omega

theorem sum_list {T : List Int} {f : Nat → Int} (h : ∀ i, i < T.length → T[i]? = some (f i)) : T.sum = sumTo f T.length := by
  have key : ∀ m, m ≤ T.length → (T.take m).sum = sumTo f m := by
    intro m
    induction m with
    | zero => intro _; rfl
    | succ m ih =>
      intro hm
      rw [List.take_add_one, h m (by omega), List.sum_append, ih (by omega), Option.toList_some, List.sum_singleton]
      rfl
  have := key T.length (Nat.le_refl _)
  rwa [List.take_length] at this

/-- a curve by a curve -/
def mulL : List Int → List Int → List Int
  | [], _ => []
  | a :: r, b => subL (0 :: mulL r b) (scL (-a) b)

theorem mulL_pev (x : Int) : ∀ a b : List Int, pev (mulL a b) x = pev a x * pev b x
  | [], b => by
    show 0 = 0 * _
    rw [Int.zero_mul]
  | a :: r, b => by
    have ih := mulL_pev x r b
    rw [mulL, subL_pev, scL_pev, pev_cons 0, ih, pev_cons a r]
    grind

theorem mulL_len : ∀ {a b : List Int} {m : Nat}, a.length + b.length ≤ m + 1 → 1 ≤ b.length → (mulL a b).length ≤ m
  | [], b, m, _, _ => Nat.zero_le _
  | a :: r, b, m, h, hb => by
    rw [List.length_cons] at h
    rw [mulL, subL_len]
    unfold scL
    rw [List.length_map, List.length_cons]
    cases r with
    | nil =>
      show max 1 b.length ≤ m
      simp at h
      omega
    | cons c r' =>
      rw [List.length_cons] at h
      have ih := mulL_len (a := c :: r') (b := b) (m := m - 1) (by rw [List.length_cons]; omega) hb
      omega

theorem zip_at {a b : List Int} {f : Int → Int → Int} {i : Nat} {u v : Int} (ha : a[i]? = some u) (hb : b[i]? = some v) : (List.zipWith f a b)[i]? = some (f u v) := by
  rw [List.getElem?_zipWith, ha, hb]

theorem lagrange {q : Int} (hq : q ∈ nine) {ns ws cs : List Int} (hp : PlacesL q ns) (hw : IsWs q 0 ns ws) (hc : cs.length ≤ ns.length) :
    Cg q (sumTo (fun i => ws.getD i 0 * pev cs (ns.getD i 0)) ns.length) (pev cs 0) := by
  have at' : ∀ i, i < ns.length → ns[i]? = some (ns.getD i 0) := fun i hi => by
    rw [List.getD_eq_getElem?_getD, List.getElem?_eq_getElem hi]
    rfl
  have atw : ∀ i, i < ns.length → ws[i]? = some (ws.getD i 0) := fun i hi => by
    rw [List.getD_eq_getElem?_getD, List.getElem?_eq_getElem (by rw [hw.1]; exact hi)]
    rfl
  have inv : ∀ i, ∃ b, i < ns.length → Cg q (gapP (ns.getD i 0) (offAt ns i) * b) 1 := fun i => by
    by_cases hi : i < ns.length
    · obtain ⟨b, hb⟩ := cg_inv hq (gap_ne hq _ (hp.off (at' i hi)))
      exact ⟨b, fun _ => hb⟩
    · exact ⟨0, fun z => absurd z hi⟩
  obtain ⟨c, hcv⟩ := Classical.skolem.mp inv
  obtain ⟨L, hL⟩ : ∃ L, L = mixL (fun i => pev cs (ns.getD i 0) * c i) (fun i => nilAt (offAt ns i)) ns.length := ⟨_, rfl⟩
  have hLl : L.length ≤ ns.length := by
    rw [hL]
    exact mixL_len fun i hi => by rw [nilAt_len, off_len hi]; exact Nat.le_refl _
  have hLx : ∀ x, pev L x = sumTo (fun i => pev cs (ns.getD i 0) * c i * gapP x (offAt ns i)) ns.length := fun x => by
    rw [hL, mixL_pev]
    congr 1
    funext i
    rw [nilAt_pev]
  have hag : ∀ x ∈ ns, Cg q (pev L x) (pev cs x) := fun x hx => by
    obtain ⟨k, hk⟩ := List.mem_iff_getElem?.mp hx
    have hkl := (List.getElem?_eq_some_iff.mp hk).1
    have ek : ns.getD k 0 = x := Option.some.inj ((at' k hkl).symm.trans hk)
    rw [hLx]
    refine (sum_pick hkl fun i hi hik => ?_).trans ?_
    · have := (Cg.refl q (pev cs (ns.getD i 0) * c i)).mul (gap_has (q := q) (off_has hk (fun z => hik z.symm)))
      rwa [Int.mul_zero] at this
    · have h1 := hcv k hkl
      have h2 := (Cg.refl q (pev cs x)).mul h1
      rw [ek] at h2 ⊢
      rw [Int.mul_one] at h2
      have e : pev cs x * c k * gapP x (offAt ns k) = pev cs x * (gapP x (offAt ns k) * c k) := by grind
      rw [e]
      exact h2
  have h0 := curves_cg hq (uneq_places hp) hLl hc hag 0
  refine Cg.trans (sum_cg fun i hi => ?_) (by rw [← hLx]; exact h0)
  have hwi := (hw.2 i _ (atw i hi)).2 _ (at' i hi)
  have h1 := hcv i hi
  have h2 := (Cg.refl q (ws.getD i 0)).mul h1
  rw [Int.mul_one] at h2
  have h3 := hwi.mul (Cg.refl q (c i))
  have e1 : ws.getD i 0 * (gapP (ns.getD i 0) (offAt ns i) * c i) = ws.getD i 0 * gapP (ns.getD i 0) (offAt ns i) * c i := by grind
  rw [e1] at h2
  have h4 := (h2.symm.trans h3).mul (Cg.refl q (pev cs (ns.getD i 0)))
  have e2 : gapP 0 (offAt ns i) * c i * pev cs (ns.getD i 0) = pev cs (ns.getD i 0) * c i * gapP 0 (offAt ns i) := by grind
  rw [e2] at h4
  exact h4

def oth (ns : List Int) (a : Int) : List Int := ns.filter fun m => decide (m ≠ a)

theorem oth_len {ns : List Int} {a : Int} (h : a ∈ ns) : (oth ns a).length + 1 ≤ ns.length := by
  unfold oth
  have := List.length_filter_lt_length_iff_exists (l := ns) (p := fun m => decide (m ≠ a))
  have h2 := this.mpr ⟨a, h, by simp⟩
  omega

theorem oth_ne {q : Int} (hq : q ∈ nine) {ns : List Int} (hp : PlacesL q ns) {a : Int} (h : a ∈ ns) : ¬ Cg q (gapP a (oth ns a)) 0 := by
  refine gap_ne hq _ fun n hn => ?_
  unfold oth at hn
  have h1 := List.mem_filter.mp hn
  have h2 : n ≠ a := of_decide_eq_true h1.2
  exact cg_ne (hp.1 a h).1 (hp.1 a h).2 (hp.1 n h1.1).1 (hp.1 n h1.1).2 fun z => h2 z.symm

theorem oth_has {ns : List Int} {a b : Int} (h : b ∈ ns) (hne : b ≠ a) : b ∈ oth ns a := by
  unfold oth
  exact List.mem_filter.mpr ⟨h, decide_eq_true hne⟩

theorem getD_of {ns : List Int} {i : Nat} (h : i < ns.length) : ns[i]? = some (ns.getD i 0) := by
  rw [List.getD_eq_getElem?_getD, List.getElem?_eq_getElem h]
  rfl

/-- a curve with given worths at places -/
theorem mix_ex {q : Int} (hq : q ∈ nine) {ns : List Int} (hp : PlacesL q ns) (y : Int → Int) : ∃ (L : List Int) (c : Int → Int), L.length ≤ ns.length ∧ (∀ n ∈ ns, Cg q (gapP n (oth ns n) * c n) 1) ∧ (∀ x, pev L x = sumTo (fun i => y (ns.getD i 0) * c (ns.getD i 0) * gapP x (oth ns (ns.getD i 0))) ns.length) ∧ ∀ n ∈ ns, Cg q (pev L n) (y n) := by
  have inv : ∀ n, ∃ b, n ∈ ns → Cg q (gapP n (oth ns n) * b) 1 := fun n => by
    by_cases hn : n ∈ ns
    · obtain ⟨b, hb⟩ := cg_inv hq (oth_ne hq hp hn)
      exact ⟨b, fun _ => hb⟩
    · exact ⟨0, fun z => absurd z hn⟩
  obtain ⟨c, hc⟩ := Classical.skolem.mp inv
  have hx : ∀ x, pev (mixL (fun i => y (ns.getD i 0) * c (ns.getD i 0)) (fun i => nilAt (oth ns (ns.getD i 0))) ns.length) x = sumTo (fun i => y (ns.getD i 0) * c (ns.getD i 0) * gapP x (oth ns (ns.getD i 0))) ns.length := fun x => by
    rw [mixL_pev]
    congr 1
    funext i
    rw [nilAt_pev]
  refine ⟨_, c, mixL_len fun i hi => ?_, hc, hx, fun n hn => ?_⟩
  · rw [nilAt_len]
    exact oth_len (List.mem_of_getElem? (getD_of hi))
  · obtain ⟨k, hk⟩ := List.mem_iff_getElem?.mp hn
    have hkl := (List.getElem?_eq_some_iff.mp hk).1
    have ek : ns.getD k 0 = n := Option.some.inj ((getD_of hkl).symm.trans hk)
    rw [hx]
    refine (sum_pick hkl fun i hi hik => ?_).trans ?_
    · have hne : n ≠ ns.getD i 0 := fun z => hik (nodup_ne hp.2 (getD_of hi) (z ▸ hk))
      have := (Cg.refl q (y (ns.getD i 0) * c (ns.getD i 0))).mul (gap_has (q := q) (oth_has hn hne))
      rwa [Int.mul_zero] at this
    · have h2 := (Cg.refl q (y n)).mul (hc n hn)
      rw [Int.mul_one] at h2
      rw [ek]
      have e : y n * c n * gapP n (oth ns n) = y n * (gapP n (oth ns n) * c n) := by grind
      rw [e]
      exact h2

theorem lagr {q : Int} (hq : q ∈ nine) {ns cs : List Int} (x : Int) (hp : PlacesL q ns) (hc : cs.length ≤ ns.length) {v : Nat → Int} (hv : ∀ i n, ns[i]? = some n → Cg q (v i * gapP n (oth ns n)) (pev cs n * gapP x (oth ns n))) :
    Cg q (sumTo v ns.length) (pev cs x) := by
  obtain ⟨L, c, hl, h1, h2, h3⟩ := mix_ex hq hp (pev cs)
  have h0 := curves_cg hq (uneq_places hp) hl hc h3 x
  refine Cg.trans (sum_cg fun i hi => ?_) (by rw [← h2]; exact h0)
  have hn := getD_of hi
  have hw := hv i _ hn
  obtain ⟨n, en⟩ : ∃ n, n = ns.getD i 0 := ⟨_, rfl⟩
  rw [← en] at hn hw ⊢
  have g1 := h1 n (List.mem_of_getElem? hn)
  have a1 := (Cg.refl q (v i)).mul g1
  rw [Int.mul_one] at a1
  have a2 := hw.mul (Cg.refl q (c n))
  have e1 : v i * (gapP n (oth ns n) * c n) = v i * gapP n (oth ns n) * c n := by grind
  rw [e1] at a1
  have e2 : pev cs n * gapP x (oth ns n) * c n = pev cs n * c n * gapP x (oth ns n) := by grind
  rw [e2] at a2
  exact a1.symm.trans a2

theorem pev_pad (l : List Int) (n : Nat) (x : Int) : pev (l ++ List.replicate n 0) x = pev l x := by
  induction l with
  | nil =>
    induction n with
    | zero => rfl
    | succ n ih =>
      rw [List.replicate_succ]
      show pev (List.replicate n 0) x * x + 0 = 0
      have ih' : pev (List.replicate n 0) x = 0 := by simpa [pev] using ih
      rw [ih']
      omega
  | cons a r ih =>
    rw [List.cons_append, pev_cons, pev_cons, ih]

theorem pev_modq (q : Int) (c : List Int) (x : Int) : Cg q (pev (c.map (· % q)) x) (pev c x) := by
  induction c with
  | nil => exact Cg.refl _ _
  | cons a r ih =>
    rw [List.map_cons, pev_cons, pev_cons]
    exact (ih.mul (Cg.refl q x)).add (Cg.mod q a)

/-- there is a curve through any points of unlike places -/
theorem thru_ex {q : Int} (hq : q ∈ nine) {ps : List (Int × Int)} (hp : PlacesL q (ps.map (·.1))) : ∃ cs, Thru q ps cs := by
  have hq5 := nine_le hq
  have yex : ∃ y : Int → Int, ∀ p ∈ ps, y p.1 = p.2 := by
    refine ⟨fun a => ((ps.find? fun p => decide (p.1 = a)).map (·.2)).getD 0, fun p hp' => ?_⟩
    show ((ps.find? fun r => decide (r.1 = p.1)).map (·.2)).getD 0 = p.2
    cases e : ps.find? fun r => decide (r.1 = p.1) with
    | none =>
      have := List.find?_eq_none.mp e p hp'
      simp at this
    | some r =>
      have h1 := List.find?_some e
      have h2 := List.mem_of_find?_eq_some e
      have h3 : r.1 = p.1 := of_decide_eq_true h1
      obtain ⟨i, hi⟩ := List.mem_iff_getElem?.mp h2
      obtain ⟨j, hj⟩ := List.mem_iff_getElem?.mp hp'
      have hij := nodup_ne hp.2 (i := i) (j := j) (x := p.1) (by rw [List.getElem?_map, hi, ← h3]; rfl) (by rw [List.getElem?_map, hj]; rfl)
      subst hij
      rw [hi] at hj
      cases hj
      rfl
  obtain ⟨y, hy⟩ := yex
  obtain ⟨L, c, hl, _, _, h3⟩ := mix_ex hq hp y
  rw [List.length_map] at hl
  refine ⟨(L ++ List.replicate (ps.length - L.length) 0).map (· % q), by rw [List.length_map, List.length_append, List.length_replicate]; omega, fun c hc => ?_, fun p hp' => ?_⟩
  · obtain ⟨a, _, rfl⟩ := List.mem_map.mp hc
    exact ⟨Int.emod_nonneg _ (by omega), Int.emod_lt_of_pos _ (by omega)⟩
  · refine (pev_modq q _ _).trans ?_
    rw [pev_pad]
    have := h3 p.1 (List.mem_map_of_mem hp')
    rwa [hy p hp'] at this

theorem oth_snoc_ne {ns : List Int} {a b : Int} (h : b ≠ a) : oth (ns ++ [b]) a = oth ns a ++ [b] := by
  unfold oth
  rw [List.filter_append, List.filter_cons_of_pos (by simpa using h), List.filter_nil]

theorem oth_snoc_eq {ns : List Int} {a : Int} : oth (ns ++ [a]) a = oth ns a := by
  unfold oth
  rw [List.filter_append, List.filter_cons_of_neg (by simp), List.filter_nil, List.append_nil]

theorem IsW.perm {q x : Int} {ns ms : List Int} {i j : Nat} {n w : Int} (hp : ms.Perm ns) (hi : ns[i]? = some n) (hj : ms[j]? = some n) (h : IsW q x ns i w) : IsW q x ms j w := by
  have e : (offAt ms j).Perm (offAt ns i) := by
    unfold offAt
    rw [← List.eraseIdx_eq_take_drop_succ, ← List.eraseIdx_eq_take_drop_succ]
    exact List.Perm.cons_inv ((erase_perm hj).trans (hp.trans (erase_perm hi).symm))
  refine ⟨h.1, fun m hm => ?_⟩
  obtain rfl : n = m := Option.some.inj (hj.symm.trans hm)
  rw [gap_perm e, gap_perm e]
  exact h.2 n hi

/-- the places turned about, the weights with them -/
theorem IsWs.turn {q x : Int} {ns ws : List Int} (h : IsWs q x ns ws) (c : Nat) : IsWs q x (ns.drop c ++ ns.take c) (ws.drop c ++ ws.take c) := by
  have hl := h.1
  refine ⟨by simp only [List.length_append, List.length_drop, List.length_take, hl], fun i w hw => ?_⟩
  have hp : (ns.drop c ++ ns.take c).Perm ns := by
    have := List.perm_append_comm (l₁ := ns.drop c) (l₂ := ns.take c)
    rwa [List.take_append_drop] at this
  by_cases hi : i < (ws.drop c).length
  · rw [List.getElem?_append_left hi, List.getElem?_drop] at hw
    rw [List.length_drop] at hi
    have e : (ns.drop c ++ ns.take c)[i]? = some (ns[c + i]'(by omega)) := by
      rw [List.getElem?_append_left (by rw [List.length_drop]; omega), List.getElem?_drop]
      exact List.getElem?_eq_getElem (by omega)
    exact IsW.perm hp (List.getElem?_eq_getElem (by omega)) e (h.2 _ w hw)
  · rw [List.getElem?_append_right (by omega), List.length_drop] at hw
    rw [List.length_drop] at hi
    have hlt := (List.getElem?_eq_some_iff.mp hw).1
    rw [List.length_take] at hlt
    rw [List.getElem?_take_of_lt (by omega)] at hw
    obtain ⟨n, hn⟩ : ∃ n, ns[i - (ns.length - c)]? = some n := ⟨_, List.getElem?_eq_getElem (by omega)⟩
    have e : (ns.drop c ++ ns.take c)[i]? = some n := by
      rw [List.getElem?_append_right (by rw [List.length_drop]; omega), List.length_drop, List.getElem?_take_of_lt (by omega)]
      exact hn
    rw [hl] at hw
    exact IsW.perm hp hn e (h.2 _ w hw)

/-- what a company's hands are dealt of a curve -/
def dealL (q n : Int) (c : List Int) : List Int := (rngI 0 n.toNat).map fun h => pev c (h + 1) % q

theorem dealL_len (q n : Int) (c : List Int) : (dealL q n c).length = n.toNat := by
  unfold dealL rngI
  rw [List.length_map, List.length_map, List.length_range]

theorem dealL_get {q n : Int} {c : List Int} {i : Nat} (h : i < n.toNat) : (dealL q n c)[i]? = some (pev c ((i : Int) + 1) % q) := by
  unfold dealL rngI
  rw [List.getElem?_map, List.getElem?_map, List.getElem?_range h]
  show some (pev c ((0 : Int) + (i : Nat) + 1) % q) = _
  rw [Int.zero_add]

theorem dealL_low {q n : Int} {c : List Int} (h : 0 < q) : ∀ x ∈ dealL q n c, 0 ≤ x ∧ x < q := fun x hx => by
  obtain ⟨i, _, rfl⟩ := List.mem_map.mp hx
  exact ⟨Int.emod_nonneg _ (Int.ne_of_gt h), Int.emod_lt_of_pos _ h⟩

theorem dealL_cg {q n : Int} {a b : List Int} (h : ∀ x, Cg q (pev a x) (pev b x)) : dealL q n a = dealL q n b := by
  unfold dealL
  exact List.map_congr_left fun x _ => Cg.iff.mp (h _)

/-- the points of these hands' pieces -/
def hPts (hs ps : List Int) : List (Int × Int) := hs.map fun h => (h + 1, ps.getD h.toNat 0)

theorem hPts_fst (hs ps : List Int) : (hPts hs ps).map (·.1) = hs.map (· + 1) := by
  unfold hPts
  rw [List.map_map]
  rfl

/-- the hands off a curve -/
def offL (q : Int) (cs : List Int) (pl : List Int) : List Int := (rngI 0 pl.length).filter fun h => decide (pev cs (h + 1) % q ≠ pl.getD h.toNat 0)

theorem pev_mods (q : Int) (c : List Int) (x : Int) : Cg q (pev (c.map (· % q)) x) (pev c x) := by
  induction c with
  | nil => exact Cg.refl _ _
  | cons a r ih =>
    rw [List.map_cons, pev_cons, pev_cons]
    exact (ih.mul (Cg.refl q x)).add (Cg.mod q a)

theorem deal_thru {q n : Int} {c : List Int} {hs : List Int} (hb : ∀ h ∈ hs, 0 ≤ h ∧ h < n) (hl : c.length = hs.length) (h0 : 0 < q) : Thru q (hPts hs (dealL q n c)) (c.map (· % q)) := by
  have pm : ∀ x, Cg q (pev (c.map (· % q)) x) (pev c x) := fun x => pev_mods q c x
  refine ⟨by unfold hPts; rw [List.length_map, List.length_map, hl], fun x hx => ?_, fun p hp => ?_⟩
  · obtain ⟨a, _, rfl⟩ := List.mem_map.mp hx
    exact ⟨Int.emod_nonneg _ (Int.ne_of_gt h0), Int.emod_lt_of_pos _ h0⟩
  · obtain ⟨m, hm, rfl⟩ := List.mem_map.mp hp
    have hmb := hb m hm
    refine (pm _).trans ?_
    show Cg q (pev c (m + 1)) ((dealL q n c).getD m.toNat 0)
    rw [List.getD_eq_getElem?_getD, dealL_get (show m.toNat < n.toNat by omega), Int.toNat_of_nonneg hmb.1]
    exact (Cg.mod q _).symm

theorem off_nil {q n : Int} {cs c : List Int} (h : ∀ x, Cg q (pev cs x) (pev c x)) : offL q cs (dealL q n c) = [] := by
  unfold offL
  rw [List.filter_eq_nil_iff]
  intro x hx
  obtain ⟨i, hi, rfl⟩ := List.mem_map.mp hx
  have hi' := List.mem_range.mp hi
  rw [dealL_len] at hi'
  have e : ((0 : Int) + (i : Nat)).toNat = i := by omega
  rw [e, List.getD_eq_getElem?_getD, dealL_get hi', Int.zero_add]
  simp
  exact Cg.iff.mp (h _)

/-- the points: the number at 0, the pieces at the hands' places -/
def evPts (m : Int) (hs ps : List Int) : List (Int × Int) := (0, m) :: List.zipWith (fun h p => (h + 1, p)) hs ps

theorem evPts_fst {m : Int} : ∀ {hs ps : List Int}, ps.length = hs.length → (evPts m hs ps).map (·.1) = 0 :: hs.map (· + 1) := by
  intro hs ps hl
  show 0 :: _ = 0 :: _
  congr 1
  induction hs generalizing ps with
  | nil => rfl
  | cons h r ih =>
    cases ps with
    | nil => simp at hl
    | cons p s =>
      rw [List.zipWith_cons_cons, List.map_cons, List.map_cons, ih (by simpa using hl)]

theorem ev_places {q m : Int} {hs ps : List Int} (hl : ps.length = hs.length) (hn : hs.Nodup) (hb : ∀ h ∈ hs, 0 ≤ h ∧ h + 1 < q) (h0 : 0 < q) : PlacesL q ((evPts m hs ps).map (·.1)) := by
  rw [evPts_fst hl]
  refine ⟨fun x hx => ?_, List.nodup_cons.mpr ⟨fun z => ?_, List.Pairwise.map _ (fun a b hab e => hab (by omega)) hn⟩⟩
  · rcases List.mem_cons.mp hx with rfl | hx
    · omega
    · obtain ⟨a, ha, rfl⟩ := List.mem_map.mp hx
      have := hb a ha
      omega
  · obtain ⟨a, ha, e⟩ := List.mem_map.mp z
    have := hb a ha
    omega

/-- the rising lists of s numbers from l on below m, rising -/
def lotsP : Nat → Nat → Nat → List (List Int)
  | 0, _, _ => [[]]
  | s + 1, m, l => (List.range (m - s - l)).flatMap fun i => (lotsP s m (l + i + 1)).map fun r => ((l + i : Nat) : Int) :: r

theorem lotsP_mem : ∀ {s m l : Nat} {r : List Int}, r ∈ lotsP s m l ↔ r.length = s ∧ r.Pairwise (· < ·) ∧ ∀ x ∈ r, (l : Int) ≤ x ∧ x < m
  | 0, m, l, r => by
    unfold lotsP
    rw [List.mem_singleton]
    constructor
    · rintro rfl
      exact ⟨rfl, .nil, fun x h => by cases h⟩
    · rintro ⟨h, _⟩
      exact List.eq_nil_of_length_eq_zero h
  | s + 1, m, l, r => by
    unfold lotsP
    rw [List.mem_flatMap]
    constructor
    · rintro ⟨i, hi, hr⟩
      obtain ⟨q, hq, rfl⟩ := List.mem_map.mp hr
      obtain ⟨h1, h2, h3⟩ := lotsP_mem.mp hq
      have hi := List.mem_range.mp hi
      refine ⟨by rw [List.length_cons, h1], .cons (fun x hx => ?_) h2, fun x hx => ?_⟩
      · have := h3 x hx
        omega
      · rcases List.mem_cons.mp hx with rfl | hx
        · omega
        · have := h3 x hx
          omega
    · rintro ⟨h1, h2, h3⟩
      cases r with
      | nil => cases h1
      | cons a q =>
        have ha := h3 a List.mem_cons_self
        cases h2 with
        | cons h4 h5 =>
          have hq : q.length = s := by simpa using h1
          have key : a + s < m := by
            have : ∀ (n : Nat) (q : List Int) (a : Int), q.length = n → (∀ x ∈ q, a < x) → q.Pairwise (· < ·) → (∀ x ∈ q, x < m) → a < m → a + n < m := by
              intro n
              induction n with
              | zero => intro q a _ _ _ _ h; simpa using h
              | succ n ih =>
                intro q a hl hg hp hm h
                cases q with
                | nil => cases hl
                | cons b q =>
                  cases hp with
                  | cons g1 g2 =>
                    have hb := hg b List.mem_cons_self
                    have := ih q b (by simpa using hl) g1 g2 (fun x hx => hm x (List.mem_cons_of_mem _ hx)) (hm b List.mem_cons_self)
                    omega
            exact this s q a hq h4 h5 (fun x hx => (h3 x (List.mem_cons_of_mem _ hx)).2) ha.2
          refine ⟨(a - l).toNat, List.mem_range.mpr (by omega), List.mem_map.mpr ⟨q, lotsP_mem.mpr ⟨hq, h5, fun x hx => ?_⟩, ?_⟩⟩
          · have h6 := h4 x hx
            have h7 := h3 x (List.mem_cons_of_mem _ hx)
            omega
          · congr 1
            omega

theorem lotsP_num : ∀ m ∈ List.range 8, ∀ s ∈ List.range 6, ∀ l ∈ List.range 9, (lotsP s m l).length ≤ 100 := by decide +kernel

theorem lots_part {s m l i : Nat} {d r : List Nat} (h : List.range (m - s - l) = d ++ i :: r) (hm : m ≤ 7) (hs : s + 1 ≤ 5) (hl : l ≤ 8) :
    (d.flatMap fun i => (lotsP s m (l + i + 1)).map fun r => ((l + i : Nat) : Int) :: r).length + (lotsP s m (l + i + 1)).length ≤ 100 := by
  have h1 := lotsP_num m (List.mem_range.mpr (by omega)) (s + 1) (List.mem_range.mpr (by omega)) l (List.mem_range.mpr (by omega))
  unfold lotsP at h1
  rw [h, List.flatMap_append, List.flatMap_cons, List.length_append, List.length_append, List.length_map] at h1
  omega

def stepL (s : Nat) (acc : List (List Int)) (h : Nat) : List (List Int) := acc ++ (acc.filter fun r => decide (r.length < s)).map fun r => r ++ [(h : Int)]

def allL (s : Nat) (d : List Nat) : List (List Int) := d.foldl (stepL s) [[]]

def lawL (m s : Nat) : List (List Int) := (allL s (List.range m)).filter fun r => decide (r.length = s)

def ltC (a b : List Int) : Bool := decide (TS.code 8 a < TS.code 8 b)

theorem lawL_perm : ∀ m ∈ List.range 8, ∀ s ∈ [2, 3, 4], s ≤ m → (lawL m s).Perm (lotsP s m 0) ∧ (lotsP s m 0).Pairwise (fun a b => TS.code 8 a < TS.code 8 b) ∧ (lawL m s).length < 64 ∧ lawL m s ≠ [] := by decide +kernel

theorem perm_sorted {α : Type} {f : α → Int} : ∀ {l2 l1 : List α}, l1.Perm l2 → l1.Pairwise (fun a b => f a ≤ f b) → l2.Pairwise (fun a b => f a < f b) → l1 = l2
  | [], l1, p, _, _ => p.eq_nil
  | b :: l2, l1, p, h1, h2 => by
    cases l1 with
    | nil => exact absurd p.symm.eq_nil (by simp)
    | cons a l1 =>
      cases h1 with
      | cons h3 h4 =>
        cases h2 with
        | cons h5 h6 =>
          have e : a = b := by
            rcases List.mem_cons.mp (p.mem_iff.mp List.mem_cons_self : a ∈ b :: l2) with z | z
            · exact z
            · rcases List.mem_cons.mp (p.mem_iff.mpr List.mem_cons_self : b ∈ a :: l1) with y | y
              · exact y.symm
              · have := h5 a z
                have := h3 b y
                omega
          subst e
          rw [perm_sorted (List.Perm.cons_inv p) h4 h6]

theorem allL_len {s : Nat} : ∀ d : List Nat, (∀ r ∈ allL s d, r.length ≤ d.length ∧ ∀ x ∈ r, ∃ h ∈ d, x = (h : Nat)) ∧ (allL s d).length ≤ 2 ^ d.length := by
  intro d
  have key : ∀ (d : List Nat) (acc : List (List Int)), (∀ r ∈ d.foldl (stepL s) acc, ∃ a ∈ acc, r.length ≤ a.length + d.length ∧ ∀ x ∈ r, x ∈ a ∨ ∃ h ∈ d, x = (h : Nat)) ∧ (d.foldl (stepL s) acc).length ≤ acc.length * 2 ^ d.length := by
    intro d
    induction d with
    | nil => intro acc; exact ⟨fun r hr => ⟨r, hr, by simp, fun x hx => .inl hx⟩, by simp⟩
    | cons h d ih =>
      intro acc
      obtain ⟨i1, i2⟩ := ih (stepL s acc h)
      refine ⟨fun r hr => ?_, ?_⟩
      · obtain ⟨a, ha, h1, h2⟩ := i1 r hr
        unfold stepL at ha
        rcases List.mem_append.mp ha with ha | ha
        · exact ⟨a, ha, by rw [List.length_cons]; omega, fun x hx => (h2 x hx).imp id fun ⟨z, hz, e⟩ => ⟨z, List.mem_cons_of_mem _ hz, e⟩⟩
        · obtain ⟨b, hb, rfl⟩ := List.mem_map.mp ha
          have hb := (List.mem_filter.mp hb).1
          refine ⟨b, hb, by rw [List.length_append] at h1; rw [List.length_cons]; have : [(h : Int)].length = 1 := rfl; omega, fun x hx => ?_⟩
          rcases h2 x hx with z | ⟨z, hz, e⟩
          · rcases List.mem_append.mp z with z | z
            · exact .inl z
            · exact .inr ⟨h, List.mem_cons_self, by simpa using z⟩
          · exact .inr ⟨z, List.mem_cons_of_mem _ hz, e⟩
      · refine Nat.le_trans i2 ?_
        have : (stepL s acc h).length ≤ acc.length * 2 := by
          unfold stepL
          rw [List.length_append, List.length_map]
          have := List.length_filter_le (fun r : List Int => decide (r.length < s)) acc
          omega
        rw [List.length_cons, Nat.pow_succ, Nat.mul_comm (2 ^ d.length) 2, ← Nat.mul_assoc]
        exact Nat.mul_le_mul_right _ this
  obtain ⟨k1, k2⟩ := key d [[]]
  refine ⟨fun r hr => ?_, by unfold allL; simpa using k2⟩
  obtain ⟨a, ha, h1, h2⟩ := k1 r hr
  rw [List.mem_singleton.mp ha] at h1 h2
  exact ⟨by simpa using h1, fun x hx => (h2 x hx).elim (fun z => by cases z) id⟩

theorem filterMap_if {α β : Type} (p : α → Prop) [DecidablePred p] (f : α → β) : ∀ l : List α, (l.filterMap fun r => if p r then some (f r) else none) = (l.filter fun r => decide (p r)).map f
  | [] => rfl
  | a :: l => by
    by_cases h : p a
    · rw [List.filterMap_cons_some (by rw [if_pos h]), List.filter_cons_of_pos (by simpa using h), List.map_cons, filterMap_if p f l]
    · rw [List.filterMap_cons_none (by rw [if_neg h]), List.filter_cons_of_neg (by simpa using h), filterMap_if p f l]

open Classical in
noncomputable def cvOf (q : Int) (hl pl : List Int) : List Int := if h : ∃ cs, Thru q (hPts hl pl) cs then Classical.choose h else []

structure Lot (q : Int) (n : Nat) (hl : List Int) : Prop where
  nd : hl.Nodup
  low : ∀ h ∈ hl, 0 ≤ h ∧ h < n
  nq : (n : Int) < q

theorem Lot.places {q : Int} {n : Nat} {hl : List Int} (h : Lot q n hl) (pl : List Int) : PlacesL q ((hPts hl pl).map (·.1)) := by
  rw [hPts_fst]
  refine ⟨fun x hx => ?_, List.Pairwise.map _ (fun a b hab e => hab (by omega)) h.nd⟩
  obtain ⟨m, hm, rfl⟩ := List.mem_map.mp hx
  have := h.low m hm
  have := h.nq
  omega

theorem Lot.thru {q : Int} {n : Nat} {hl : List Int} (hq : q ∈ nine) (h : Lot q n hl) (pl : List Int) : Thru q (hPts hl pl) (cvOf q hl pl) := by
  have e := thru_ex hq (h.places pl)
  unfold cvOf
  rw [dif_pos e]
  exact Classical.choose_spec e

theorem Lot.one {q : Int} {n : Nat} {hl : List Int} (hq : q ∈ nine) (h : Lot q n hl) {pl cs : List Int} (t : Thru q (hPts hl pl) cs) : cvOf q hl pl = cs := Thru.one hq (h.places pl) (h.thru hq pl) t

theorem lot_of {q : Int} {s n : Nat} {hl : List Int} (hm : hl ∈ lotsP s n 0) (nq : (n : Int) < q) : Lot q n hl := by
  obtain ⟨_, h2, h3⟩ := lotsP_mem.mp hm
  exact ⟨h2.imp fun h e => by omega, fun h hh => by have := h3 h hh; omega, nq⟩

theorem cnt2 {α : Type} (a b : α → Bool) : ∀ l : List α, l.length ≤ (l.filter fun x => !a x && !b x).length + (l.filter a).length + (l.filter b).length
  | [] => by simp
  | x :: l => by
    have ih := cnt2 a b l
    cases ha : a x <;> cases hb : b x <;> simp [ha, hb] <;> omega

theorem cnt1 {α : Type} (a : α → Bool) : ∀ l : List α, l.length = (l.filter fun x => !a x).length + (l.filter a).length
  | [] => by simp
  | x :: l => by
    have ih := cnt1 a l
    cases ha : a x <;> simp [ha] <;> omega

def offP (q : Int) (cs pl : List Int) (h : Int) : Bool := decide (pev cs (h + 1) % q ≠ pl.getD h.toNat 0)

theorem off_eq (q : Int) (cs pl : List Int) : offL q cs pl = (rngI 0 pl.length).filter (offP q cs pl) := rfl

theorem on_cg {q : Int} {cs pl : List Int} {h : Int} (hn : offP q cs pl h = false) (h0 : 0 ≤ h) (h1 : h.toNat < pl.length) (hp : ∀ p ∈ pl, 0 ≤ p ∧ p < q) : Cg q (pev cs (h + 1)) (pl.getD h.toNat 0) := by
  have e : pev cs (h + 1) % q = pl.getD h.toNat 0 := Classical.byContradiction fun z => by
    unfold offP at hn
    exact (of_decide_eq_false hn) z
  have hb := hp _ (List.mem_of_getElem? (getD_of h1))
  exact Cg.iff.mpr (e.trans (Int.emod_eq_of_lt hb.1 hb.2).symm)

theorem rngI_pw (lo : Int) (n : Nat) : (rngI lo n).Pairwise (· < ·) := by
  unfold rngI
  exact List.Pairwise.map _ (fun a b h => by omega) List.pairwise_lt_range

theorem rngI_mem {lo x : Int} {n : Nat} (h : x ∈ rngI lo n) : lo ≤ x ∧ x < lo + n := by
  unfold rngI at h
  obtain ⟨i, hi, rfl⟩ := List.mem_map.mp h
  have := List.mem_range.mp hi
  omega

/-- two curves with few hands off are one -/
theorem one_curve {q : Int} (hq : q ∈ nine) {pl c d : List Int} {s f : Nat} (nq : (pl.length : Int) < q) (hp : ∀ p ∈ pl, 0 ≤ p ∧ p < q) (hc : c.length = s) (hd : d.length = s) (lc : ∀ x ∈ c, 0 ≤ x ∧ x < q) (ld : ∀ x ∈ d, 0 ≤ x ∧ x < q)
    (oc : (offL q c pl).length ≤ f) (od : (offL q d pl).length ≤ f) (hn : s + 2 * f ≤ pl.length) : c = d := by
  have k := cnt2 (offP q c pl) (offP q d pl) (rngI 0 pl.length)
  rw [rngI_len, ← off_eq, ← off_eq] at k
  obtain ⟨on, hon⟩ : ∃ on, on = (rngI 0 pl.length).filter fun x => !offP q c pl x && !offP q d pl x := ⟨_, rfl⟩
  rw [← hon] at k
  have mem : ∀ h ∈ on, (0 ≤ h ∧ h < pl.length) ∧ offP q c pl h = false ∧ offP q d pl h = false := fun h hh => by
    rw [hon] at hh
    obtain ⟨h1, h2⟩ := List.mem_filter.mp hh
    have := rngI_mem h1
    simp only [Bool.and_eq_true, Bool.not_eq_true'] at h2
    exact ⟨by omega, h2⟩
  have pw : on.Pairwise (· < ·) := by rw [hon]; exact (rngI_pw 0 _).filter _
  have pp : PlacesL q (on.map (· + 1)) := by
    refine ⟨fun x hx => ?_, List.Pairwise.map _ (fun a b hab e => absurd hab (by omega)) pw⟩
    obtain ⟨h, hh, rfl⟩ := List.mem_map.mp hx
    have := (mem h hh).1
    omega
  refine curves_eq hq (uneq_places pp) (hc.trans hd.symm) (by rw [List.length_map]; omega) lc ld fun x hx => ?_
  obtain ⟨h, hh, rfl⟩ := List.mem_map.mp hx
  obtain ⟨h1, h2, h3⟩ := mem h hh
  exact (on_cg h2 h1.1 (by omega) hp).trans (on_cg h3 h1.1 (by omega) hp).symm

/-- .. and it goes through a lot among the first ones -/
theorem early_lot {q : Int} (hq : q ∈ nine) {pl c : List Int} {s f m : Nat} (nq : (pl.length : Int) < q) (hp : ∀ p ∈ pl, 0 ≤ p ∧ p < q) (hc : c.length = s) (lc : ∀ x ∈ c, 0 ≤ x ∧ x < q) (oc : (offL q c pl).length ≤ f) (hm : s + f = m) (hmn : m ≤ pl.length) :
    ∃ hl ∈ lotsP s m 0, cvOf q hl pl = c := by
  have k := cnt1 (offP q c pl) (rngI 0 m)
  rw [rngI_len] at k
  obtain ⟨tl, ex⟩ : ∃ tl, rngI 0 pl.length = rngI 0 m ++ tl := by
    obtain ⟨r, hr⟩ : ∃ r, pl.length = m + r := ⟨pl.length - m, by omega⟩
    rw [hr]
    unfold rngI
    rw [List.range_add, List.map_append]
    exact ⟨_, rfl⟩
  have k2 : ((rngI 0 m).filter (offP q c pl)).length ≤ f := by
    rw [off_eq, ex, List.filter_append, List.length_append] at oc
    omega
  obtain ⟨on, hon⟩ : ∃ on, on = (rngI 0 m).filter fun x => !offP q c pl x := ⟨_, rfl⟩
  rw [← hon] at k
  have mem : ∀ h ∈ on, (0 ≤ h ∧ h < m) ∧ offP q c pl h = false := fun h hh => by
    rw [hon] at hh
    obtain ⟨h1, h2⟩ := List.mem_filter.mp hh
    have := rngI_mem h1
    exact ⟨by omega, by simpa using h2⟩
  have pw : on.Pairwise (· < ·) := by rw [hon]; exact (rngI_pw 0 _).filter _
  have hm2 : on.take s ∈ lotsP s m 0 := lotsP_mem.mpr ⟨by rw [List.length_take]; omega, pw.take, fun x hx => by have := (mem x (List.mem_of_mem_take hx)).1; omega⟩
  refine ⟨on.take s, hm2, (lot_of hm2 (by omega)).one hq ⟨by unfold hPts; rw [List.length_map, List.length_take, hc]; omega, lc, fun p hp' => ?_⟩⟩
  unfold hPts at hp'
  obtain ⟨h, hh, rfl⟩ := List.mem_map.mp hp'
  have h1 := mem h (List.mem_of_mem_take hh)
  exact on_cg h1.2 h1.1.1 (by omega) hp

/-- none told -/
def NoNum (q : Int) (n t f : Nat) (pl : List Int) : Prop := ∀ hl ∈ lotsP (t + 1) n 0, f < (offL q (cvOf q hl pl) pl).length

theorem pev0 : ∀ {q : Int} {cs : List Int}, (∀ x ∈ cs, 0 ≤ x ∧ x < q) → 0 < q → pev cs 0 % q = cs.getD 0 0
  | q, [], _, _ => Int.zero_emod q
  | q, c :: r, h, _ => by
    rw [pev_cons, Int.mul_zero, Int.zero_add]
    have := h c List.mem_cons_self
    exact Int.emod_eq_of_lt this.1 this.2

theorem lots_sz {m s : Nat} (hm : m ≤ 7) (hs : s ≤ 5) : (lotsP s m 0).length ≤ 100 := lotsP_num m (List.mem_range.mpr (by omega)) s (List.mem_range.mpr (by omega)) 0 (by decide)

theorem pev_snoc (a : List Int) (n x : Int) : pev (a ++ [n]) x = pev a x + x ^ a.length * n := by
  induction a with
  | nil =>
    show 0 * x + n = 0 + x ^ 0 * n
    rw [Int.zero_mul, Int.pow_zero, Int.one_mul]
  | cons m r ih =>
    rw [List.cons_append, pev_cons, ih, pev_cons, List.length_cons, Int.pow_succ]
    generalize x ^ r.length = y
    grind

theorem pev_set {x v u : Int} : ∀ {l : List Int} {k : Nat}, l[k]? = some u → pev (l.set k v) x = pev l x + (v - u) * x ^ k
  | [], k, h => by simp at h
  | a :: r, 0, h => by
    simp at h
    subst h
    rw [List.set_cons_zero, pev_cons, pev_cons, Int.pow_zero]
    omega
  | a :: r, k + 1, h => by
    have ih := pev_set (x := x) (v := v) (l := r) (k := k) (by simpa using h)
    rw [List.set_cons_succ, pev_cons, ih, pev_cons, Int.pow_succ]
    generalize x ^ k = y
    grind

theorem pev_rep0 (n : Nat) (x : Int) : pev (List.replicate n 0) x = 0 := by
  induction n with
  | zero => rfl
  | succ n ih => rw [List.replicate_succ, pev_cons, ih, Int.zero_mul]; rfl

theorem fermat0 : ∀ q ∈ [5, 7, 11, 13, 17, 19, 23, 29, 31], ∀ a ∈ List.range q, a = 0 ∨ a * (a ^ (q - 2) % q) % q = 1 := by decide +kernel

theorem fermat {q a : Int} (hq : q ∈ nine) (h0 : 0 < a) (h1 : a < q) : Cg q (a * (a ^ (q - 2).toNat % q)) 1 := by
  have h5 := nine_le hq
  have hn : q.toNat ∈ [5, 7, 11, 13, 17, 19, 23, 29, 31] := by
    simp only [nine, List.mem_cons, List.not_mem_nil, or_false] at hq ⊢
    omega
  refine Cg.iff.mpr ?_
  rw [show (1 : Int) % q = 1 from Int.emod_eq_of_lt (by decide) (by omega)]
  rcases fermat0 q.toNat hn a.toNat (List.mem_range.mpr (by omega)) with h | h
  · omega
  · have ea : ((a.toNat : Nat) : Int) = a := Int.toNat_of_nonneg (by omega)
    have eq : ((q.toNat : Nat) : Int) = q := Int.toNat_of_nonneg (by omega)
    have e2 : (q - 2).toNat = q.toNat - 2 := by omega
    rw [e2, ← ea, ← eq, Int.toNat_natCast]
    exact_mod_cast h

/-- the curve of a lot: 1 at 0, nought at the lot's places -/
structure LotC (q : Int) (ls cs : List Int) : Prop where
  num : cs.length = ls.length + 1
  low : ∀ c ∈ cs, 0 ≤ c ∧ c < q
  one : cs[0]? = some 1
  zero : ∀ x, 0 ≤ x → x + 1 < q → (pev cs (x + 1) % q = 0 ↔ x ∈ ls)

theorem isW_ex {q x : Int} {ns : List Int} {i : Nat} {n : Int} (hq : q ∈ nine) (hn : PlacesL q ns) (hi : ns[i]? = some n) : ∃ w, IsW q x ns i w := by
  have h5 := nine_le hq
  obtain ⟨b, hb⟩ := cg_inv hq (gap_ne hq _ (hn.off hi))
  refine ⟨gapP x (offAt ns i) * b % q, ⟨Int.emod_nonneg _ (by omega), Int.emod_lt_of_pos _ (by omega)⟩, fun n' hn' => ?_⟩
  obtain rfl : n = n' := Option.some.inj (hi.symm.trans hn')
  have h1 := (Cg.mod q (gapP x (offAt ns i) * b)).mul (Cg.refl q (gapP n (offAt ns i)))
  have e : gapP x (offAt ns i) * b * gapP n (offAt ns i) = gapP x (offAt ns i) * (gapP n (offAt ns i) * b) := by grind
  rw [e] at h1
  have h2 := (Cg.refl q (gapP x (offAt ns i))).mul hb
  rw [Int.mul_one] at h2
  exact h1.trans h2

/-- what the law has gone through: the first j but the one at i -/
def upTo (ns : List Int) (i j : Nat) : List Int := (ns.take j).eraseIdx i

theorem upTo_off (ns : List Int) (i : Nat) : upTo ns i ns.length = offAt ns i := by
  unfold upTo offAt
  rw [List.take_of_length_le (Nat.le_refl _), List.eraseIdx_eq_take_drop_succ]

theorem upTo_same {ns : List Int} {i : Nat} {n : Int} (h : ns[i]? = some n) : upTo ns i (i + 1) = upTo ns i i := by
  unfold upTo
  have hl := (List.getElem?_eq_some_iff.mp h).1
  have e : (ns.take i).length = i := by rw [List.length_take]; omega
  rw [List.take_add_one, h, List.eraseIdx_append_of_length_le (by omega), e, Nat.sub_self, List.eraseIdx_of_length_le (l := ns.take i) (by omega)]
  exact List.append_nil _

theorem upTo_next {ns : List Int} {i j : Nat} {n : Int} (h : ns[j]? = some n) (hij : j ≠ i) : upTo ns i (j + 1) = upTo ns i j ++ [n] := by
  unfold upTo
  have hl := (List.getElem?_eq_some_iff.mp h).1
  have e : (ns.take j).length = j := by rw [List.length_take]; omega
  rw [List.take_add_one, h]
  by_cases hlt : i < j
  · rw [List.eraseIdx_append_of_lt_length (by omega)]
    rfl
  · rw [List.eraseIdx_append_of_length_le (by omega), List.eraseIdx_of_length_le (l := ns.take j) (by omega), List.eraseIdx_of_length_le]
    · rfl
    · show 1 ≤ _
      omega

def wmul (q : Int) (cs ns ws : List Int) : List Int := List.zipWith (fun w n => w * (pev cs n % q)) ws ns

theorem wmul_get {q : Int} {cs ns ws : List Int} {i : Nat} {w n : Int} (hw : ws[i]? = some w) (hn : ns[i]? = some n) : (wmul q cs ns ws)[i]? = some (w * (pev cs n % q)) := by
  unfold wmul
  rw [List.getElem?_zipWith, hw, hn]

theorem wmul_len {q : Int} {cs ns ws : List Int} (h : ws.length = ns.length) : (wmul q cs ns ws).length = ns.length := by
  unfold wmul
  rw [List.length_zipWith, h, Nat.min_self]

theorem wmul_sum {q : Int} {cs ns ws : List Int} (h : ws.length = ns.length) : ∀ m, m ≤ ns.length → Cg q ((wmul q cs ns ws).take m).sum (sumTo (fun i => ws.getD i 0 * pev cs (ns.getD i 0)) m)
  | 0, _ => Cg.refl _ _
  | m + 1, hm => by
    have ih := wmul_sum (q := q) (cs := cs) h m (by omega)
    have hw : ws[m]? = some (ws.getD m 0) := by rw [List.getD_eq_getElem?_getD, List.getElem?_eq_getElem (by omega)]; rfl
    have hn : ns[m]? = some (ns.getD m 0) := by rw [List.getD_eq_getElem?_getD, List.getElem?_eq_getElem (by omega)]; rfl
    rw [List.take_add_one, wmul_get hw hn, List.sum_append]
    refine ih.add ?_
    rw [Option.toList_some, List.sum_singleton]
    exact (Cg.refl q _).mul (Cg.mod q _)

theorem pev_append (a b : List Int) (x : Int) : pev (a ++ b) x = pev a x + x ^ a.length * pev b x := by
  induction a with
  | nil => simp [pev]
  | cons n r ih =>
    rw [List.cons_append, pev_cons, ih, pev_cons, List.length_cons, Int.pow_succ]
    have e1 : (pev r x + x ^ r.length * pev b x) * x = pev r x * x + x ^ r.length * x * pev b x := by
      rw [Int.add_mul, Int.mul_right_comm]
    omega

/-- a curve's points at these places -/
def ptsOf (q : Int) (cs ss : List Int) : List (Int × Int) := ss.map fun s => (s, pev cs s % q)

theorem pts_fst (q : Int) (cs ss : List Int) : (ptsOf q cs ss).map (·.1) = ss := by
  unfold ptsOf
  rw [List.map_map]
  exact List.map_id ss
end FL
/-! more equations for `simp only [seval]` -/
namespace FL
open PySem PyProof.Rows L2
section
variable {α β : Type} {st : Store} {x y z : Val} {xs ys : List Val} {p q n m : Nat} {i j k : Int} {b : Bool}
/-! a cell's list: by what the store holds -/
theorem lstAt_eq1 : lstAt st p = match st[p]? with
  | some (.lst xs) => some xs
  | _ => none := nd rfl
theorem dicAt_eq1 : dicAt st p = match st[p]? with
  | some (.dic xs) => some xs
  | _ => none := nd rfl
theorem seq_ref1 : seqOf st (.ref p) = lstAt st p := nd rfl
theorem lst_ref1 : lstOf st (.ref p) = lstAt st p := nd rfl
theorem pl_ref1 : plOf st (.ref p) = lstAt st p := nd rfl
theorem cur_ref1 : curOf st (.ref p) = match lstAt st p with
  | some _ => some fun s => lstAt s p
  | none => none := nd rfl
theorem dict_ref1 : dictOf st (.ref p) = dicAt st p := nd rfl
theorem seq_int1 : seqOf st (.int i) = none := nd rfl
theorem seq_str1 {s : Str} : seqOf st (.str s) = none := nd rfl
theorem seq_non1 : seqOf st .non = none := nd rfl
theorem seq_bl1 : seqOf st (.bl b) = none := nd rfl
theorem seq_rd1 {ks : List Key} : seqOf st (.rd ks xs) = none := nd rfl
theorem dict_rd1 {ks : List Key} : dictOf st (.rd ks xs) = some (ks.zip xs) := nd rfl
/-! items -/
theorem at_0 {a : α} {l : List α} : atI (a :: l) 0 = some a := atI_nat (j := 0) rfl
theorem at_1 {a a1 : α} {l : List α} : atI (a :: a1 :: l) 1 = some a1 := atI_nat (j := 1) rfl
theorem at_2 {a a1 a2 : α} {l : List α} : atI (a :: a1 :: a2 :: l) 2 = some a2 := atI_nat (j := 2) rfl
theorem at_3 {a a1 a2 a3 : α} {l : List α} : atI (a :: a1 :: a2 :: a3 :: l) 3 = some a3 := atI_nat (j := 3) rfl
theorem at_4 {a a1 a2 a3 a4 : α} {l : List α} : atI (a :: a1 :: a2 :: a3 :: a4 :: l) 4 = some a4 := atI_nat (j := 4) rfl
theorem at_5 {a a1 a2 a3 a4 a5 : α} {l : List α} : atI (a :: a1 :: a2 :: a3 :: a4 :: a5 :: l) 5 = some a5 := atI_nat (j := 5) rfl
theorem at_eq {l : List α} {a : α} {i : Int} (h0 : 0 ≤ i) (h : l[i.toNat]? = some a) : atI l i = some a := by
  have e : i = (i.toNat : Int) := by omega
  rw [e]
  exact atI_nat h
theorem at_map {f : α → β} {l : List α} : atI (l.map f) i = (atI l i).map f := by
  unfold atI
  rw [List.length_map]
  cases ixN l.length i with
  | none => rfl
  | some j => simp
theorem map_some {f : α → β} {a : α} : (some a).map f = some (f a) := nd rfl
theorem at_ints {l : List Int} (h : 0 ≤ i ∧ i < (l.length : Int)) : atI l i = some (l.getD i.toNat 0) := by
  refine at_eq h.1 ?_
  rw [List.getD_eq_getElem?_getD, List.getElem?_eq_getElem (by omega)]
  rfl
theorem ixN_in (h : 0 ≤ i ∧ i < (n : Int)) : ixN n i = some i.toNat := by
  unfold ixN
  rw [if_pos h.1, if_pos h.2]
theorem ix_tup : fIx (.tup xs) (.int i) st = match atI xs i with
  | some z => some (z, st)
  | none => none := nd rfl
theorem ix_ro : fIx (.ro xs) (.int i) st = match atI xs i with
  | some z => some (z, st)
  | none => none := nd rfl
theorem ix_wr : fIx (.wr xs) (.int i) st = match atI xs i with
  | some z => some (z, st)
  | none => none := nd rfl
theorem ix_ref {p : Nat} (h : st[p]? = some (.lst xs)) : fIx (.ref p) (.int i) st = match atI xs i with
  | some z => some (z, st)
  | none => none := by
  unfold fIx ixF
  simp only [seq_ref1, lstAt_eq1, h]
  all_goals (cases atI xs i <;> rfl)
theorem ix_ref1 : fIx (.ref p) (.int i) st = match st[p]? with
  | some (.lst xs) => (match atI xs i with
    | some z => some (z, st)
    | none => none)
  | some (.dic es) => (match valS es (.inl i) with
    | some z => some (z, st)
    | none => none)
  | _ => none := by
  unfold fIx ixF
  simp only [seq_ref1, lstAt_eq1]
  unfold FL.dGet
  simp only [dict_ref1, dicAt_eq1]
  cases h : st[p]? with
  | none => rfl
  | some c =>
    cases c with
    | lst ys => rfl
    | dic es =>
      simp only [keyOf]
      cases valS es (.inl i) <;> rfl
    | dit es => rfl
    | ins C es => rfl
/-! sizes, kinds -/
theorem len_ro : fLen [.ro xs] st = some (.int (xs.length : Nat), st) := nd rfl
theorem len_tup : fLen [.tup xs] st = some (.int (xs.length : Nat), st) := nd rfl
theorem len_wr : fLen [.wr xs] st = some (.int (xs.length : Nat), st) := nd rfl
theorem len_ref : fLen [.ref p] st = match st[p]? with
  | some (.lst xs) => some (.int (xs.length : Nat), st)
  | some (.dic es) => some (.int (es.length : Nat), st)
  | _ => none := by
  unfold fLen
  simp only [seq_ref1, lstAt_eq1, dict_ref1, dicAt_eq1]
  cases h : st[p]? with
  | none => rfl
  | some c => cases c <;> rfl
theorem len_nil : ([] : List α).length = 0 := nd rfl
theorem len_cons {a : α} {l : List α} : (a :: l).length = l.length + 1 := nd rfl
theorem len_app {l r : List α} : (l ++ r).length = l.length + r.length := List.length_append
theorem len_rngs {lo : Int} : (rngs lo n).length = n := rngs_len lo n
theorem len_set {l : List α} {a : α} : (l.set n a).length = l.length := List.length_set
theorem ty_non : tyF st .non = some .non := nd rfl
theorem ty_bl : tyF st (.bl b) = some .bool := nd rfl
theorem ty_int : tyF st (.int i) = some .int := nd rfl
theorem ty_str {s : Str} : tyF st (.str s) = some .str := nd rfl
theorem ty_tup : tyF st (.tup xs) = some .tuple := nd rfl
theorem ty_ro : tyF st (.ro xs) = some .list := nd rfl
theorem ty_rd {ks : List Key} : tyF st (.rd ks xs) = some .dict := nd rfl
theorem le_nn {T : Ty} : Ty.le T T = true := by cases T <;> rfl
theorem le_bi : Ty.le .bool .int = true := nd rfl
theorem le_bs : Ty.le .bool .str = false := nd rfl
theorem le_bt : Ty.le .bool .tuple = false := nd rfl
theorem le_bl : Ty.le .bool .list = false := nd rfl
theorem le_bd : Ty.le .bool .dict = false := nd rfl
theorem le_ib : Ty.le .int .bool = false := nd rfl
theorem le_is : Ty.le .int .str = false := nd rfl
theorem le_it : Ty.le .int .tuple = false := nd rfl
theorem le_il : Ty.le .int .list = false := nd rfl
theorem le_id : Ty.le .int .dict = false := nd rfl
theorem le_si : Ty.le .str .int = false := nd rfl
theorem le_sb : Ty.le .str .bool = false := nd rfl
theorem le_st : Ty.le .str .tuple = false := nd rfl
theorem le_sl : Ty.le .str .list = false := nd rfl
theorem le_sd : Ty.le .str .dict = false := nd rfl
theorem le_ti : Ty.le .tuple .int = false := nd rfl
theorem le_tb : Ty.le .tuple .bool = false := nd rfl
theorem le_ts : Ty.le .tuple .str = false := nd rfl
theorem le_tl : Ty.le .tuple .list = false := nd rfl
theorem le_td : Ty.le .tuple .dict = false := nd rfl
theorem le_li : Ty.le .list .int = false := nd rfl
theorem le_lb : Ty.le .list .bool = false := nd rfl
theorem le_ls : Ty.le .list .str = false := nd rfl
theorem le_lt : Ty.le .list .tuple = false := nd rfl
theorem le_ld : Ty.le .list .dict = false := nd rfl
theorem le_ni : Ty.le .non .int = false := nd rfl
theorem le_nb : Ty.le .non .bool = false := nd rfl
theorem le_ns : Ty.le .non .str = false := nd rfl
theorem le_nt : Ty.le .non .tuple = false := nd rfl
theorem le_nl : Ty.le .non .list = false := nd rfl
theorem le_nd : Ty.le .non .dict = false := nd rfl
theorem le_di : Ty.le .dict .int = false := nd rfl
theorem le_db : Ty.le .dict .bool = false := nd rfl
theorem le_ds : Ty.le .dict .str = false := nd rfl
theorem le_dt : Ty.le .dict .tuple = false := nd rfl
theorem le_dl : Ty.le .dict .list = false := nd rfl
/-! conversions -/
theorem list_ro : fList b [.ro xs] st = some (newL b xs st) := nd rfl
theorem list_tup : fList b [.tup xs] st = some (newL b xs st) := nd rfl
theorem list_wr : fList b [.wr xs] st = some (newL b xs st) := nd rfl
theorem list_ref : fList b [.ref p] st = match lstAt st p with
  | some ys => some (newL b ys st)
  | none => none := nd rfl
theorem tuple_tup : fTuple [.tup xs] st = some (.tup xs, st) := nd rfl
theorem tuple_ro : fTuple [.ro xs] st = some (.tup xs, st) := nd rfl
theorem tuple_wr : fTuple [.wr xs] st = some (.tup xs, st) := nd rfl
theorem tuple_ref : fTuple [.ref p] st = match lstAt st p with
  | some ys => some (.tup ys, st)
  | none => none := nd rfl
theorem int_i : fInt [.int i] st = some (.int i, st) := nd rfl
theorem int_b : fInt [.bl b] st = some (.int (if b then 1 else 0), st) := nd rfl
theorem ints_of {l : List Int} : intsOf (l.map Val.int) = some l := by
  induction l with
  | nil => rfl
  | cons n r ih =>
    rw [List.map_cons]
    unfold intsOf
    rw [ih]
theorem bools_of {l : List Bool} : boolsOf (l.map Val.bl) = some l := by
  induction l with
  | nil => rfl
  | cons n r ih =>
    rw [List.map_cons]
    unfold boolsOf
    rw [ih]
theorem sum_eq1 : fSum [x] st = match intsIn st x with
  | some ns => some (.int ns.sum, st)
  | none => none := nd rfl
theorem all_eq1 : fAll [x] st = match boolsIn st x with
  | some ns => some (.bl (ns.all id), st)
  | none => none := nd rfl
theorem any_eq1 : fAny [x] st = match boolsIn st x with
  | some ns => some (.bl (ns.any id), st)
  | none => none := nd rfl
theorem intsIn_ro : intsIn st (.ro xs) = intsOf xs := nd rfl
theorem boolsIn_ro : boolsIn st (.ro xs) = boolsOf xs := nd rfl
theorem boolsIn_ref : boolsIn st (.ref p) = match lstAt st p with
  | some ys => boolsOf ys
  | none => none := nd rfl
theorem intsIn_ref : intsIn st (.ref p) = match lstAt st p with
  | some ys => intsOf ys
  | none => none := nd rfl
theorem intsIn_tup : intsIn st (.tup xs) = none := nd rfl
theorem max2_eq : fMax2 [.int i, .int j] st = some (.int (if i < j then j else i), st) := by
  unfold fMax2
  first | rfl | simp
theorem min2_eq : fMin2 [.int i, .int j] st = some (.int (if j < i then j else i), st) := by
  unfold fMin2
  first | rfl | simp
/-! methods -/
theorem app_eq (h : xs.length < 10000) : fApp xs [y] = some (.non, xs ++ [y]) := by
  unfold fApp
  rw [show Nat.blt xs.length sizeLine = true from Nat.ble_eq_true_of_le (show xs.length + 1 ≤ 16777216 by omega)]
  rfl
theorem popAt_eq (h0 : 0 ≤ i) (h1 : i < (xs.length : Int)) (hz : xs.length ≤ 10000) (h : xs[i.toNat]? = some y) : fPopAt xs [.int i] = some (y, xs.eraseIdx i.toNat) := by
  unfold fPopAt
  dsimp only
  rw [decide_eq_true (show -(2 ^ 63) ≤ i ∧ i < 2 ^ 63 by omega)]
  have e : seqIndex? i xs.length = some i.toNat := pop_at h0 h1
  rw [e]
  dsimp only [cond_true]
  rw [h]
theorem clr_eq : fClr xs [] = some (.non, []) := nd rfl
/-! slices -/
theorem sl_tup {lo hi : Option Int} : slF b (.tup xs) lo hi st = some (.tup (cutL xs lo hi), st) := nd rfl
theorem sl_ro {lo hi : Option Int} : slF b (.ro xs) lo hi st = some (newL b (cutL xs lo hi) st) := nd rfl
theorem sl_wr {lo hi : Option Int} : slF b (.wr xs) lo hi st = some (newL b (cutL xs lo hi) st) := nd rfl
theorem sl_ref {lo hi : Option Int} : slF b (.ref p) lo hi st = match lstAt st p with
  | some xs => some (newL b (cutL xs lo hi) st)
  | none => none := nd rfl
theorem cut_to {i : Int} (h : 0 ≤ i) : cutL xs none (some i) = xs.take i.toNat := by
  obtain ⟨k, rfl⟩ : ∃ k : Nat, i = (k : Int) := ⟨i.toNat, by omega⟩
  unfold cutL
  rw [HT.sIx_nat]
  show ((xs.drop 0).take _) = _
  rw [List.drop_zero]
  show xs.take (min k xs.length - 0) = _
  rw [Nat.sub_zero, Int.toNat_natCast]
  rcases Nat.le_total k xs.length with h | h
  · rw [Nat.min_eq_left h]
  · rw [Nat.min_eq_right h, List.take_of_length_le (Nat.le_refl _), List.take_of_length_le h]
theorem cut_from {i : Int} (h : 0 ≤ i) : cutL xs (some i) none = xs.drop i.toNat := by
  obtain ⟨k, rfl⟩ : ∃ k : Nat, i = (k : Int) := ⟨i.toNat, by omega⟩
  unfold cutL
  rw [HT.sIx_nat]
  show ((xs.drop (min k xs.length)).take (xs.length - min k xs.length)) = _
  rw [List.take_of_length_le (by rw [List.length_drop]; omega), Int.toNat_natCast]
  rcases Nat.le_total k xs.length with h | h
  · rw [Nat.min_eq_left h]
  · rw [Nat.min_eq_right h, List.drop_of_length_le (Nat.le_refl _), List.drop_of_length_le h]
theorem cut_to' {i : Int} (h : 0 ≤ i) : cutL xs none (some i) = xs.take i.toNat := cut_to h
theorem cut_from' {i : Int} (h : 0 ≤ i) : cutL xs (some i) none = xs.drop i.toNat := cut_from h
theorem cut_all' : cutL xs none none = xs := by
  unfold cutL
  show (xs.drop 0).take _ = xs
  rw [List.drop_zero]
  show xs.take (xs.length - 0) = xs
  rw [Nat.sub_zero, List.take_length]
theorem cut_mid {i j : Int} (h : 0 ≤ i) (h2 : 0 ≤ j) : cutL xs (some i) (some j) = (xs.drop i.toNat).take (j.toNat - i.toNat) := by
  obtain ⟨k, rfl⟩ : ∃ k : Nat, i = (k : Int) := ⟨i.toNat, by omega⟩
  obtain ⟨l, rfl⟩ : ∃ l : Nat, j = (l : Int) := ⟨j.toNat, by omega⟩
  unfold cutL
  rw [HT.sIx_nat, HT.sIx_nat, Int.toNat_natCast, Int.toNat_natCast]
  apply List.ext_getElem?
  intro m
  rw [List.getElem?_take, List.getElem?_take, List.getElem?_drop, List.getElem?_drop]
  by_cases hm : m < min l xs.length - min k xs.length
  · rw [if_pos hm, if_pos (by omega), Nat.min_eq_left (by omega)]
  · rw [if_neg hm]
    by_cases h3 : m < l - k
    · rw [if_pos h3, List.getElem?_eq_none (by omega)]
    · rw [if_neg h3]
theorem toNat_cast : ((n : Int)).toNat = n := Int.toNat_natCast n
theorem take_map {f : α → β} {l : List α} : (l.map f).take n = (l.take n).map f := List.map_take.symm
theorem drop_map {f : α → β} {l : List α} : (l.map f).drop n = (l.drop n).map f := List.map_drop.symm
theorem eraseIdx_map {f : α → β} {l : List α} : (l.map f).eraseIdx n = (l.eraseIdx n).map f := by
  induction l generalizing n with
  | nil => rfl
  | cons a l ih =>
    cases n with
    | zero => rfl
    | succ n => simp [ih]
/-! truth -/
theorem tru_non : truF st .non = some false := nd rfl
theorem tru_bl : truF st (.bl b) = some b := nd rfl
theorem tru_int : truF st (.int i) = some (i != 0) := nd rfl
theorem tru_tup : truF st (.tup xs) = some (!xs.isEmpty) := nd rfl
theorem tru_ro : truF st (.ro xs) = some (!xs.isEmpty) := nd rfl
/-! what a def gives back: new things without cells in them -/
mutual
theorem frzV_id {lk : Nat → Option Val} : ∀ {x : Val}, below 0 x = true → frzV lk x = some x
  | .non, _ => rfl
  | .bl _, _ => rfl
  | .int _, _ => rfl
  | .str _, _ => rfl
  | .ty _, _ => rfl
  | .gl _, _ => rfl
  | .ex0 _, _ => rfl
  | .ref n, h => by simp [FL.below] at h
  | .tup xs, h => by
    unfold frzV
    rw [frzVs_id (by simpa [FL.below] using h)]
  | .ro xs, h => by
    unfold frzV
    rw [frzVs_id (by simpa [FL.below] using h)]
  | .wr xs, h => by
    unfold frzV
    rw [frzVs_id (by simpa [FL.below] using h)]
  | .rd ks xs, h => by
    unfold frzV
    rw [frzVs_id (by simpa [FL.below] using h)]
  | .ex1 C f x, h => by
    unfold frzV
    rw [frzV_id (by simpa [FL.below] using h)]
theorem frzVs_id {lk : Nat → Option Val} : ∀ {xs : List Val}, belows 0 xs = true → frzVs lk xs = some xs
  | [], _ => rfl
  | x :: xs, h => by
    have h' := Bool.and_eq_true_iff.mp (show (below 0 x && belows 0 xs) = true by simpa [FL.belows] using h)
    unfold frzVs
    rw [frzV_id h'.1, frzVs_id h'.2]
end
theorem below_int : below n (.int i) = true := nd rfl
theorem below_bl : below n (.bl b) = true := nd rfl
theorem below_non : below n .non = true := nd rfl
theorem below_str {s : Str} : below n (.str s) = true := nd rfl
theorem below_tup : below n (.tup xs) = belows n xs := by simp [FL.below]
theorem below_ro : below n (.ro xs) = belows n xs := by simp [FL.below]
theorem belows_nil : belows n [] = true := nd rfl
theorem belows_cons : belows n (x :: xs) = (below n x && belows n xs) := by simp [FL.belows]
theorem belows_app : belows n (xs ++ ys) = (belows n xs && belows n ys) := by
  induction xs with
  | nil => rfl
  | cons x xs ih => rw [List.cons_append, belows_cons, belows_cons, ih, Bool.and_assoc]
theorem belows_ints {l : List Int} : belows n (l.map Val.int) = true := by
  induction l with
  | nil => rfl
  | cons x xs ih => rw [List.map_cons, belows_cons, ih]; rfl
theorem belows_map {l : List α} {f : α → Val} (h : ∀ a ∈ l, below n (f a) = true) : belows n (l.map f) = true := by
  induction l with
  | nil => rfl
  | cons x xs ih => rw [List.map_cons, belows_cons, ih fun a ha => h a (List.mem_cons_of_mem _ ha), h x List.mem_cons_self]; rfl
theorem retV_id {st0 st : Store} {x : Val} (h : st.take st0.length = st0) (hb : below 0 x = true) : retV st0 x st = (x, st0) := by
  unfold retV frz
  rw [frzV_id hb]
  dsimp only
  rw [leftB_same h, h]
  rfl
theorem retV_lst {st0 cs : Store} {xs : List Val} (h : belows 0 xs = true) : retV st0 (.ref st0.length) (st0 ++ .lst xs :: cs) = (.ro xs, st0) := by
  have hf : frz st0.length (st0 ++ .lst xs :: cs) (.ref st0.length) = some (.ro xs) := by
    show frzN st0.length (st0 ++ .lst xs :: cs) 40 st0.length = _
    unfold frzN
    rw [show Nat.blt st0.length st0.length = false from Bool.eq_false_iff.mpr fun z => Nat.lt_irrefl _ (Nat.le_of_ble_eq_true z)]
    dsimp only [cond_false]
    rw [List.getElem?_append_right (Nat.le_refl _), Nat.sub_self]
    dsimp only [List.getElem?_cons_zero]
    rw [frzVs_id h]
  unfold retV
  rw [hf]
  dsimp only
  rw [leftB_same (by rw [List.take_append_of_le_length (Nat.le_refl _), List.take_length]), List.take_append_of_le_length (Nat.le_refl _), List.take_length]
  rfl
end
/-! the last cell -/
section
variable {st : Store} {ρ : FL.Env} {x : Val} {xs : List Val} {c d : Cell} {i : Int} {p : Nat}
theorem store_last : (st ++ [c])[st.length]? = some c := getElem?_end rfl
theorem store_put : (st ++ [c]).set st.length d = st ++ [d] := by
  rw [List.set_append_right _ _ (Nat.le_refl _), Nat.sub_self]
  rfl
theorem putAt_last (h : 0 ≤ i ∧ i < (xs.length : Int)) : putAt1 (st ++ [.lst xs]) st.length (.int i) x ρ = some (ρ, st ++ [.lst (xs.set i.toNat x)]) := by
  rw [putAt_lst store_last h.1 h.2, store_put]
theorem set_ints {l : List Int} {n : Nat} {k : Int} : (l.map Val.int).set n (.int k) = (l.set n k).map Val.int := List.map_set.symm
theorem getV_lst (h : st[p]? = some (.lst xs)) : lstAt st p = some xs := lstAt_of h
end
/-! in, rows of whole numbers -/
theorem flatFs_ints : ∀ ns : List Int, flatFs (ns.map Val.int) = some (ns.map V.int)
  | [] => rfl
  | n :: r => by
    rw [List.map_cons]
    unfold flatFs
    rw [flatFs_ints r]
    rfl
theorem inV_ints (x : Int) (ns : List Int) : inV (.int x) (ns.map V.int) = decide (x ∈ ns) := by
  unfold inV
  induction ns with
  | nil => rfl
  | cons n r ih =>
    rw [List.map_cons, List.any_cons, ih]
    by_cases e : n = x
    · subst e
      simp [eqV]
    · have e2 : ¬ x = n := fun z => e z.symm
      simp [eqV, e, e2]
section
variable {st : Store} {x : Int} {ns : List Int}
theorem in_ro : fIn false (.int x) (.ro (ns.map Val.int)) st = some (.bl (decide (x ∈ ns)), st) := by
  unfold fIn inF
  simp only [seq_ro, flatF, flatFs_ints, inV_ints, cond_false]
theorem in_tup : fIn false (.int x) (.tup (ns.map Val.int)) st = some (.bl (decide (x ∈ ns)), st) := by
  unfold fIn inF
  simp only [seq_tup, flatF, flatFs_ints, inV_ints, cond_false]
theorem nin_ro : fIn true (.int x) (.ro (ns.map Val.int)) st = some (.bl (!decide (x ∈ ns)), st) := by
  unfold fIn inF
  simp only [seq_ro, flatF, flatFs_ints, inV_ints, cond_true]
theorem nin_tup : fIn true (.int x) (.tup (ns.map Val.int)) st = some (.bl (!decide (x ∈ ns)), st) := by
  unfold fIn inF
  simp only [seq_tup, flatF, flatFs_ints, inV_ints, cond_true]
end
/-! two rows side by side -/
section
variable {st : Store} {xs ys : List Val}
theorem zpC_c (h : xs.length = ys.length) : zpC true (fun _ => some xs) (fun _ => some ys) = fun _ => some (List.zipWith prV xs ys) := by
  unfold zpC
  funext _
  dsimp only
  rw [show (xs.length == ys.length) = true by simp [h]]
  rfl
theorem zpC_f : zpC false (fun _ => some xs) (fun _ => some ys) = fun _ => some (List.zipWith prV xs ys) := nd rfl
theorem zip_ints (a b : List Int) : List.zipWith prV (a.map Val.int) (b.map Val.int) = (a.zip b).map fun p => Val.tup [.int p.1, .int p.2] := by
  induction a generalizing b with
  | nil => rfl
  | cons x a ih =>
    cases b with
    | nil => rfl
    | cons y b =>
      rw [List.map_cons, List.map_cons, List.zipWith_cons_cons, ih, List.zip_cons_cons, List.map_cons]
      rfl
end

theorem pow18 {st : Store} : fPow (.int 10) (.int 18) st = some (.int 1000000000000000000, st) := nd rfl
theorem pow50 {st : Store} : fPow (.int 10) (.int 50) st = some (.int 100000000000000000000000000000000000000000000000000, st) := nd rfl
theorem pow59 {st : Store} : fPow (.int 10) (.int 59) st = some (.int 100000000000000000000000000000000000000000000000000000000000, st) := nd rfl
end FL
/-! data as values: equality, repr -/
namespace FL
open PySem PyProof.Rows L2
mutual
def ofD : PyData → Val
  | .none => .non
  | .bool b => .bl b
  | .int i => .int i
  | .str x => .str x
  | .tuple ds => .tup (ofDs ds)
  | .list ds => .ro (ofDs ds)
  | .dict _ => .rd [] []
def ofDs : List PyData → List Val
  | [] => []
  | d :: ds => ofD d :: ofDs ds
end
mutual
theorem toDV_of {lk : Nat → Option PyData} : ∀ {d : PyData}, d.canLay0 = true → toDV lk (ofD d) = some d
  | .none, _ => rfl
  | .bool _, _ => rfl
  | .int _, _ => rfl
  | .str _, _ => rfl
  | .tuple ds, h => by
    unfold ofD toDV
    rw [toDVs_of (by simpa [PyData.canLay0] using h)]
  | .list ds, h => by
    unfold ofD toDV
    rw [toDVs_of (by simpa [PyData.canLay0] using h)]
  | .dict _, h => by simp [PyData.canLay0] at h
theorem toDVs_of {lk : Nat → Option PyData} : ∀ {ds : List PyData}, PyData.canLayAll0 ds = true → toDVs lk (ofDs ds) = some ds
  | [], _ => rfl
  | d :: ds, h => by
    have h' := Bool.and_eq_true_iff.mp (show (d.canLay0 && PyData.canLayAll0 ds) = true by simpa [PyData.canLayAll0] using h)
    unfold ofDs toDVs
    rw [toDV_of h'.1, toDVs_of h'.2]
end
theorem toD_of {st : Store} {d : PyData} (h : d.canLay0 = true) : toD st (ofD d) = some d := toDV_of h
/-- x is the data d -/
def IsD (x : Val) (d : PyData) : Prop := x = ofD d ∧ SeqAt.shaped d = true
theorem IsD.to {st : Store} {x : Val} {d : PyData} (h : IsD x d) : toD st x = some d := by rw [h.1]; exact toD_of (SeqAt.canLay_of_shaped h.2)
theorem eqF_data {st : Store} {x y : Val} {d e : PyData} (hx : IsD x d) (hy : IsD y e) : eqF st x y = some (PyData.eqv d e) := by
  have hs : (SeqAt.shaped d && SeqAt.shaped e) = true := by rw [hx.2, hy.2]; rfl
  unfold eqF
  split
  · next i j =>
    cases d <;> first | (have := hx.1; simp [ofD] at this; done) | skip
    cases e <;> first | (have := hy.1; simp [ofD] at this; done) | skip
    have h1 := hx.1; have h2 := hy.1
    simp [ofD] at h1 h2
    subst h1 h2
    simp [PyData.eqv]
    rfl
  · next i j =>
    cases d <;> first | (have := hx.1; simp [ofD] at this; done) | skip
    cases e <;> first | (have := hy.1; simp [ofD] at this; done) | skip
    have h1 := hx.1; have h2 := hy.1
    simp [ofD] at h1 h2
    subst h1 h2
    simp [PyData.eqv]
    rfl
  · rw [hx.to, hy.to]
    dsimp only
    rw [hs]
    rfl
theorem fEq_data {st : Store} {x y : Val} {d e : PyData} {b : Bool} (hx : IsD x d) (hy : IsD y e) : fEq b x y st = some (.bl (bif b then !PyData.eqv d e else PyData.eqv d e), st) := by
  unfold fEq
  rw [eqF_data hx hy]
theorem lay_ints : ∀ ns : List Int, PyData.canLayAll0 (ns.map PyData.int) = true
  | [] => rfl
  | n :: r => by
    rw [List.map_cons]
    simp [PyData.canLayAll0, PyData.canLay0, lay_ints r]
theorem dep_ints : ∀ ns : List Int, PyData.depthAll (ns.map PyData.int) = 0
  | [] => rfl
  | n :: r => by
    rw [List.map_cons]
    simp [PyData.depthAll, PyData.depth, dep_ints r]
theorem shaped_ints (ns : List Int) : SeqAt.shaped (.list (ns.map PyData.int)) = true := by
  simp [SeqAt.shaped, PyData.canLay0, PyData.depth, lay_ints, dep_ints]
theorem shaped_intsT (ns : List Int) : SeqAt.shaped (.tuple (ns.map PyData.int)) = true := by
  simp [SeqAt.shaped, PyData.canLay0, PyData.depth, lay_ints, dep_ints]
theorem ofDs_ints : ∀ ns : List Int, ofDs (ns.map PyData.int) = iL ns
  | [] => rfl
  | n :: r => by
    rw [List.map_cons]
    unfold ofDs
    rw [ofDs_ints r]
    rfl
theorem isD_tup (ns : List Int) : IsD (.tup (iL ns)) (.tuple (ns.map PyData.int)) := ⟨by unfold ofD; rw [ofDs_ints], shaped_intsT ns⟩
theorem isD_ro (ns : List Int) : IsD (.ro (iL ns)) (.list (ns.map PyData.int)) := ⟨by unfold ofD; rw [ofDs_ints], shaped_ints ns⟩
theorem isD_int (i : Int) : IsD (.int i) (.int i) := ⟨rfl, rfl⟩
theorem isD_bl (b : Bool) : IsD (.bl b) (.bool b) := ⟨rfl, rfl⟩
theorem isD_non : IsD .non .none := ⟨rfl, rfl⟩
theorem eqvAll_ints : ∀ a b : List Int, PyData.eqvAll (a.map PyData.int) (b.map PyData.int) = decide (a = b)
  | [], [] => by simp [PyData.eqvAll]
  | [], _ :: _ => by simp [PyData.eqvAll]
  | _ :: _, [] => by simp [PyData.eqvAll]
  | x :: a, y :: b => by
    rw [List.map_cons, List.map_cons]
    simp only [PyData.eqvAll, PyData.eqv, eqvAll_ints a b]
    by_cases h1 : x = y <;> by_cases h2 : a = b <;> simp [h1, h2]
section
variable {st : Store} {a c : List Int} {i : Int}
theorem eq_tup : fEq false (.tup (a.map Val.int)) (.tup (c.map Val.int)) st = some (.bl (decide (a = c)), st) := by
  rw [fEq_data (isD_tup a) (isD_tup c)]
  simp [PyData.eqv, eqvAll_ints]
theorem ne_tup : fEq true (.tup (a.map Val.int)) (.tup (c.map Val.int)) st = some (.bl (!decide (a = c)), st) := by
  rw [fEq_data (isD_tup a) (isD_tup c)]
  simp [PyData.eqv, eqvAll_ints]
theorem eq_ro : fEq false (.ro (a.map Val.int)) (.ro (c.map Val.int)) st = some (.bl (decide (a = c)), st) := by
  rw [fEq_data (isD_ro a) (isD_ro c)]
  simp [PyData.eqv, eqvAll_ints]
theorem ne_ro : fEq true (.ro (a.map Val.int)) (.ro (c.map Val.int)) st = some (.bl (!decide (a = c)), st) := by
  rw [fEq_data (isD_ro a) (isD_ro c)]
  simp [PyData.eqv, eqvAll_ints]
theorem eq_ro0 : fEq false (.ro (a.map Val.int)) (.ro []) st = some (.bl (decide (a = [])), st) := eq_ro (c := [])
theorem ne_ro0 : fEq true (.ro (a.map Val.int)) (.ro []) st = some (.bl (!decide (a = [])), st) := ne_ro (c := [])
end
/-! repr -/
theorem showable_ints {ns : List Int} (h : ∀ n ∈ ns, -(10 ^ 12) < n ∧ n < 10 ^ 12) : PyData.showableAll (ns.map PyData.int) = true := PyData.showableAll_ints ns fun n hn => by
  have := h n hn
  have h2 : n.natAbs < 2 ^ 60 := by omega
  exact Nat.lt_of_lt_of_le (PySem.Flt.log2_lt_of (by decide) h2) (by decide)
theorem leaves_ints : ∀ {ns : List Int}, (∀ n ∈ ns, -(10 ^ 12) < n ∧ n < 10 ^ 12) → PyData.leavesShortAll 13 (ns.map PyData.int) = true
  | [], _ => by simp [PyData.leavesShortAll]
  | n :: r, h => by
    have hn := h n (List.mem_cons_self ..)
    have := PyData.shown_int_le (i := n) (by omega)
    rw [List.map_cons]
    have h14 : (PyData.shown (.int n)).length ≤ 13 := by omega
    simp [PyData.leavesShortAll, PyData.leavesShort, h14, leaves_ints fun m hm => h m (List.mem_cons_of_mem _ hm)]
theorem weight_ints : ∀ {ns : List Int}, (∀ n ∈ ns, -(10 ^ 12) < n ∧ n < 10 ^ 12) → PyData.weightAll (ns.map PyData.int) ≤ 50 * ns.length
  | [], _ => by simp [PyData.weightAll]
  | n :: r, h => by
    rw [List.map_cons]
    have ih := weight_ints (ns := r) fun m hm => h m (List.mem_cons_of_mem _ hm)
    have hn := h n (List.mem_cons_self ..)
    have hl : n.natAbs.log2 < 41 := by
      have : n.natAbs < 2 ^ 41 := by omega
      exact PySem.Flt.log2_lt_of (by decide) this
    simp only [PyData.weightAll, PyData.weight, List.length_cons]
    split <;> omega
theorem nd_ints (ns : List Int) : PyData.hasDictAll (ns.map PyData.int) = false := by
  induction ns with
  | nil => simp only [List.map_nil, PyData.hasDictAll]
  | cons n r ih => simp only [List.map_cons, PyData.hasDictAll, PyData.hasDict, ih, Bool.or_false]
theorem repOk_intsT {ns : List Int} (h : ∀ n ∈ ns, -(10 ^ 12) < n ∧ n < 10 ^ 12) (hl : ns.length ≤ 10000) : repOk (.tuple (ns.map PyData.int)) = true := by
  have hw := weight_ints h
  have h1 : PyData.showable (.tuple (ns.map PyData.int)) = true := by simp [PyData.showable, showable_ints h]
  have h2 : (PyData.tuple (ns.map PyData.int)).depth ≤ 100 := by simp [PyData.depth, dep_ints]
  have h3 : (PyData.shown (.tuple (ns.map PyData.int))).length ≤ sizeLine := PyData.shown_fits (B := 13) (by decide) (by decide) (by simp [PyData.leavesShort, leaves_ints h]) (by simp only [PyData.weight]; omega)
  have h4 : (PyData.tuple (ns.map PyData.int)).hasDict = false := by simp only [PyData.hasDict]; exact nd_ints ns
  unfold repOk
  rw [h1, decide_eq_true h2, decide_eq_true h3, h4]
  rfl
theorem repOk_ints {ns : List Int} (h : ∀ n ∈ ns, -(10 ^ 12) < n ∧ n < 10 ^ 12) (hl : ns.length ≤ 10000) : repOk (.list (ns.map PyData.int)) = true := by
  have hw := weight_ints h
  have h1 : PyData.showable (.list (ns.map PyData.int)) = true := by simp [PyData.showable, showable_ints h]
  have h2 : (PyData.list (ns.map PyData.int)).depth ≤ 100 := by simp [PyData.depth, dep_ints]
  have h3 : (PyData.shown (.list (ns.map PyData.int))).length ≤ sizeLine := PyData.shown_fits (B := 13) (by decide) (by decide) (by simp [PyData.leavesShort, leaves_ints h]) (by simp only [PyData.weight]; omega)
  have h4 : (PyData.list (ns.map PyData.int)).hasDict = false := by simp only [PyData.hasDict]; exact nd_ints ns
  unfold repOk
  rw [h1, decide_eq_true h2, decide_eq_true h3, h4]
  rfl
/-- repr of data that is shown -/
theorem repr_data {st : Store} {d : PyData} (hd : d.canLay0 = true) (hs : (∃ ds, d = .tuple ds) ∨ ∃ ds, d = .list ds) (hr : repOk d = true) : fRepr [ofD d] st = some (.str (PyData.shown d), st) := by
  rcases hs with ⟨ds, rfl⟩ | ⟨ds, rfl⟩
  · have e := toD_of (st := st) hd
    unfold fRepr
    simp only [ofD] at e ⊢
    rw [e]
    dsimp only
    rw [hr]
    rfl
  · have e := toD_of (st := st) hd
    unfold fRepr
    simp only [ofD] at e ⊢
    rw [e]
    dsimp only
    rw [hr]
    rfl
theorem repr_int {st : Store} {i : Int} (h : -1152921504606846976 < i ∧ i < 1152921504606846976) : fRepr [.int i] st = some (.str (toString i), st) := by
  have h2 : i.natAbs < 2 ^ 60 := by omega
  have h3 : i.natAbs.log2 < 1920 := Nat.lt_of_lt_of_le (PySem.Flt.log2_lt_of (by decide) h2) (by decide)
  unfold fRepr
  dsimp only
  rw [decide_eq_true h3]
  rfl

section
variable {st : Store} {a b : Bool}
theorem eq_bl : fEq false (.bl a) (.bl b) st = some (.bl (decide (a = b)), st) := by
  rw [fEq_data (isD_bl a) (isD_bl b)]
  cases a <;> cases b <;> rfl
theorem ne_bl : fEq true (.bl a) (.bl b) st = some (.bl (!decide (a = b)), st) := by
  rw [fEq_data (isD_bl a) (isD_bl b)]
  cases a <;> cases b <;> rfl
theorem dec_bb {x : Bool} : decide (x = x) = true := by simp
theorem dec_tf : decide (true = false) = false := rfl
theorem dec_ft : decide (false = true) = false := rfl
end
end FL
/-! exceptions, step by step -/
namespace FL
open PySem PyProof.Rows L2
section
variable {ρ : FL.Env} {st : Store} {x y : Val} {n f c : Str} {i : Nat} {oi : Option Nat} {u : FS} {tb : ClsT} {hs : List (Str × Option Nat × FS)} {e : XV} {te : FE}
theorem hnd_nil : hnd tb e ρ st [] = .ex e ρ st := nd rfl
def hndR (tb : ClsT) (o : Option Bool) (e : XV) (ρ : FL.Env) (st : Store) (oi : Option Nat) (u : FS) (hs : List (Str × Option Nat × FS)) : S := match o with
  | some true => (u (putAt oi ρ (xvV e)) st).unname oi
  | some false => hnd tb e ρ st hs
  | none => .bad
theorem hnd_cons : hnd tb e ρ st ((c, oi, u) :: hs) = hndR tb (tb e.1 c) e ρ st oi u hs := by
  unfold hndR
  rw [hnd]
  all_goals rfl
theorem hndR_t : hndR tb (some true) e ρ st oi u hs = (u (putAt oi ρ (xvV e)) st).unname oi := nd rfl
theorem hndR_f : hndR tb (some false) e ρ st oi u hs = hnd tb e ρ st hs := nd rfl
theorem unname_nx : (S.nx ρ st).unname (some i) = .nx (ρ.set i none) st := nd rfl
theorem unname_rt : (S.rt x st).unname (some i) = .rt x st := nd rfl
theorem unname_nx0 : (S.nx ρ st).unname none = .nx ρ st := nd rfl
theorem unname_rt0 : (S.rt x st).unname none = .rt x st := nd rfl
theorem putAt_some : putAt (some i) ρ x = ρ.set i (some x) := nd rfl
theorem putAt_none : putAt none ρ x = ρ := nd rfl
theorem xvV_1 : xvV (n, some (f, x)) = .ex1 n f x := nd rfl
theorem xvV_0 : xvV (n, none) = .ex0 n := nd rfl
def kXf (cs : List Str) (f : Str) : Val → Store → R Val := fun x s => match x with
  | .ex1 n g y => bif cs.contains n && decide (g = f) then .ok y s else .bad
  | _ => .bad
theorem eXf_eq {cs : List Str} : eXf cs f te ρ st = (te ρ st).bind (kXf cs f) := nd rfl
theorem kXf_eq {cs : List Str} (h : cs.contains n = true) : kXf cs f (.ex1 n f x) st = .ok x st := by
  unfold kXf
  dsimp only
  rw [h, decide_eq_true rfl]
  rfl
theorem isN_ty {t : String} : isN (.ty t) = false := nd rfl
theorem isN_gl {t : Str} : isN (.gl t) = false := nd rfl
theorem set_same {c : Cell} {p : Nat} (h : st[p]? = some c) : st.set p c = st := by
  apply List.ext_getElem?
  intro j
  by_cases e : p = j
  · subst e
    rw [List.getElem?_set_self (List.getElem?_eq_some_iff.mp h).1, h]
  · rw [List.getElem?_set_ne e]
end
theorem eDictZ_eq {ρ : FL.Env} {st : Store} : eDictZ ρ st = .ok (.rd [] []) st := nd rfl
theorem eDict0_eq {ρ : FL.Env} {st : Store} : eDict0 ρ st = .ok (.ref st.length) (st ++ [.dic []]) := nd rfl
def catR (b : Bool) (o p : Option (List Val)) (st : Store) : Option (Val × Store) := match o, p with
  | some xs, some ys => bif Nat.ble (xs.length + ys.length) sizeLine then some (newL b (xs ++ ys) st) else none
  | _, _ => none
theorem catR_eq {xs ys : List Val} {b : Bool} {st : Store} (h : xs.length + ys.length ≤ 10000) : catR b (some xs) (some ys) st = some (newL b (xs ++ ys) st) := by
  show (bif Nat.ble (xs.length + ys.length) sizeLine then _ else _) = _
  rw [Nat.ble_eq_true_of_le (Nat.le_trans h (by decide))]
  rfl
theorem fAdd_rr {n : Nat} {ys : List Val} {b : Bool} {st : Store} : fAdd b (.ref n) (.ro ys) st = catR b (match st[n]? with | some (.lst xs) => some xs | _ => none) (some ys) st := nd rfl
theorem fAdd_rr2 {n : Nat} {ys : List Val} {b : Bool} {st : Store} : fAdd b (.ro ys) (.ref n) st = catR b (some ys) (match st[n]? with | some (.lst xs) => some xs | _ => none) st := nd rfl
theorem fAdd_rr3 {n m : Nat} {b : Bool} {st : Store} : fAdd b (.ref n) (.ref m) st = catR b (match st[n]? with | some (.lst xs) => some xs | _ => none) (match st[m]? with | some (.lst xs) => some xs | _ => none) st := nd rfl
end FL
/-! repr of single things, of tuples with empty dicts in them -/
namespace FL
open PySem PySem.Spec PyProof.Rows L2
mutual
/-- data in a heap, of lists, tuples and empty dicts -/
inductive Zr (h : Heap) : Value → PyData → Prop
  | non : Zr h .none .none
  | bl (b : Bool) : Zr h (.bool b) (.bool b)
  | int (i : Int) (t : Tok) : Zr h (.int i t) (.int i)
  | str (x : Str) (t : Tok) : Zr h (.str x t) (.str x)
  | lst {a : Addr} {o : Obj} {vs : Array Value} {n : Nat} {ds : List PyData} : h.get? a = some o → o.cls = .type "list" → o.data = .seq vs n → ZrAll h vs.toList ds → Zr h (.ref a) (.list ds)
  | tup {a : Addr} {o : Obj} {vs : Array Value} {n : Nat} {ds : List PyData} : h.get? a = some o → o.cls = .type "tuple" → o.data = .seq vs n → ZrAll h vs.toList ds → Zr h (.ref a) (.tuple ds)
  | emp {a : Addr} {o : Obj} {es : Array DictEntry} {n : Nat} : a ≠ sysModules → h.get? a = some o → o.cls = .type "dict" → o.data = .dict es n → es.toList = [] → Zr h (.ref a) (.dict [])
inductive ZrAll (h : Heap) : List Value → List PyData → Prop
  | nil : ZrAll h [] []
  | cons {v : Value} {vs : List Value} {d : PyData} {ds : List PyData} : Zr h v d → ZrAll h vs ds → ZrAll h (v :: vs) (d :: ds)
end
section
variable {h : Heap}
mutual
theorem Zr.reads : ∀ {v : Value} {d : PyData}, Zr h v d → ∃ as, Reads h v d as
  | _, _, .non => ⟨[], .none⟩
  | _, _, .bl b => ⟨[], .bool b⟩
  | _, _, .int i t => ⟨[], .int i t⟩
  | _, _, .str x t => ⟨[], .str x t⟩
  | _, _, .lst h1 h2 h3 h4 => let ⟨_, r⟩ := ZrAll.reads h4; ⟨_, .list h1 h2 h3 r⟩
  | _, _, .tup h1 h2 h3 h4 => let ⟨_, r⟩ := ZrAll.reads h4; ⟨_, .tuple h1 h2 h3 r⟩
  | _, _, .emp _ h1 h2 h3 h4 => ⟨_, Reads.dict (as := []) (bs := []) h1 h2 h3 (by rw [h4]; exact .nil) (by rw [h4]; exact .nil)⟩
theorem ZrAll.reads : ∀ {vs : List Value} {ds : List PyData}, ZrAll h vs ds → ∃ as, ReadsAll h vs ds as
  | _, _, .nil => ⟨[], .nil⟩
  | _, _, .cons a b => let ⟨_, r⟩ := Zr.reads a; let ⟨_, q⟩ := ZrAll.reads b; ⟨_, .cons r q⟩
end
variable {prog : Program} {w : World}
theorem zr_none {n : Nat} : ReadAtMost h n [] := fun _ z => nomatch z
mutual
theorem Zr.shows : ∀ {v : Value} {d : PyData}, Zr h v d → d.showable = true → d.shown.length ≤ sizeLine → ∃ bs, ReadAtMost h d.depth bs ∧ ReprK prog w bs h d.depth v d.shown
  | _, _, .non, _, _ => ⟨[], zr_none, by simp only [PyData.shown]; exact .of_is ReprIs.none _ _ _⟩
  | _, _, .bl b, _, _ => ⟨[], zr_none, by simp only [PyData.shown]; exact .of_is (ReprIs.bool b) _ _ _⟩
  | _, _, .int i t, hs, _ => ⟨[], zr_none, by simp only [PyData.shown]; exact .of_is (ReprIs.int t (by simpa [PyData.showable] using hs)) _ _ _⟩
  | _, _, .str x t, _, hz => ⟨[], zr_none, by simp only [PyData.shown]; exact .of_is (ReprIs.str x t (by simpa only [PyData.shown] using hz)) _ _ _⟩
  | _, _, .lst (a := a) (vs := vs) (ds := ds) h1 h2 h3 h4, hs, hz => by
    have hz2 : (listText (PyData.shownAll ds)).length ≤ sizeLine := by simpa only [PyData.shown] using hz
    obtain ⟨bs, hb, hk⟩ := ZrAll.shows h4 (by simpa [PyData.showable] using hs) (fun t ht => Nat.le_trans (listText_mem_le ht) hz2)
    obtain ⟨as, rr⟩ := ZrAll.reads h4
    have hr : Reads h (.ref a) (.list ds) (a :: as) := .list h1 h2 h3 rr
    have hn : a ∉ bs := not_mem_of_deeper hr (by simp only [PyData.depth]; omega) hb
    refine ⟨a :: bs, ReadAtMost.cons hr (by simp only [PyData.depth]; omega) hb, ?_⟩
    simp only [PyData.depth, PyData.shown]
    obtain ⟨l⟩ := vs
    cases l with
    | nil =>
      have q : ZrAll h [] ds := h4
      cases q
      rw [show listText (PyData.shownAll []) = "[]" from listText_nil]
      exact ReprK.listEmpty h1 h2 h3
    | cons y l => exact ReprK.list h1 h2 h3 hn (by simpa using hk.length_eq) fun i y e => hk.item i y (by simpa using e)
  | _, _, .tup (a := a) (ds := ds) h1 h2 h3 h4, hs, hz => by
    have hz2 : (tupleText (PyData.shownAll ds)).length ≤ sizeLine := by simpa only [PyData.shown] using hz
    obtain ⟨bs, hb, hk⟩ := ZrAll.shows h4 (by simpa [PyData.showable] using hs) (fun t ht => Nat.le_trans (tupleText_mem_le ht) hz2)
    obtain ⟨as, rr⟩ := ZrAll.reads h4
    have hr : Reads h (.ref a) (.tuple ds) as := .tuple h1 h2 h3 rr
    have hn : a ∉ bs := not_mem_of_deeper hr (by simp only [PyData.depth]; omega) hb
    exact ⟨a :: bs, ReadAtMost.cons hr (by simp only [PyData.depth]; omega) hb, by simp only [PyData.depth, PyData.shown]; exact ReprK.tuple h1 h2 h3 hn hk⟩
  | _, _, .emp (a := a) (es := es) hne h1 h2 h3 h4, _, _ => by
    have hr : Reads h (.ref a) (.dict []) _ := Reads.dict (as := []) (bs := []) h1 h2 h3 (by rw [h4]; exact .nil) (by rw [h4]; exact .nil)
    refine ⟨[a], ReadAtMost.cons (bs := []) (n := 0) hr (Nat.zero_le _) zr_none, ?_⟩
    have q : ReprEntriesK prog w [] h 0 es.toList [] := by
      rw [h4]
      exact .nil
    simp only [PyData.depth, PyData.depthKv, PyData.shown, PyData.shownKv]
    exact ReprK.dict h1 h2 h3 (beq_eq_false_iff_ne.mpr hne) (fun z => nomatch z) q
theorem ZrAll.shows : ∀ {vs : List Value} {ds : List PyData}, ZrAll h vs ds → PyData.showableAll ds = true → (∀ t ∈ PyData.shownAll ds, t.length ≤ sizeLine) → ∃ bs, ReadAtMost h (PyData.depthAll ds) bs ∧ ReprAllK prog w bs h (PyData.depthAll ds) vs (PyData.shownAll ds)
  | _, _, .nil, _, _ => ⟨[], zr_none, by simp only [PyData.shownAll]; exact .nil⟩
  | _, _, .cons (d := d) (ds := ds) r rs, hs, hz => by
    have h2 : d.showable = true ∧ PyData.showableAll ds = true := by simpa [PyData.showableAll] using hs
    obtain ⟨b1, m1, k1⟩ := Zr.shows r h2.1 (hz _ (by simp only [PyData.shownAll]; exact List.mem_cons_self))
    obtain ⟨b2, m2, k2⟩ := ZrAll.shows rs h2.2 fun t ht => hz t (by simp only [PyData.shownAll]; exact List.mem_cons_of_mem _ ht)
    refine ⟨b1 ++ b2, ?_, ?_⟩
    · simp only [PyData.depthAll]
      exact (m1.mono (Nat.le_max_left _ _)).append (m2.mono (Nat.le_max_right _ _))
    · simp only [PyData.depthAll, PyData.shownAll]
      exact .cons ((k1.more fun b z => List.mem_append_left _ z).level_le (Nat.le_max_left _ _)) (k2.more_le (fun b z => List.mem_append_right _ z) (Nat.le_max_right _ _))
end
/-- repr of such -/
theorem zr_repr {A : Around} {E : Value → Shared → Prop} {s : Shared} {Q : Value → Shared → Prop} {a : Addr} {d : PyData} (r : Zr s.heap (.ref a) d) (hs : d.showable = true) (hg : A.guards = some []) (hu : A.units + (d.depth + 1) < cLine) (hz : d.shown.length ≤ sizeLine)
    (hQ : ∀ h' u tk, (∀ b o, s.heap.get? b = some o → h'.get? b = some o) → Q (.str d.shown u) { s with heap := h', toks := tk }) : wpAny (model prog w) A (call (.builtin "repr") [.ref a]) Q E s := by
  have hg1 : A.in1.guards = some [] := hg
  cases r with
  | @lst _ o vs n ds h1 h2 h3 h4 =>
    have hz2 : (listText (PyData.shownAll ds)).length ≤ sizeLine := by simpa only [PyData.shown] using hz
    obtain ⟨bs, hb, hk⟩ := ZrAll.shows (prog := prog) (w := w) h4 (by simpa [PyData.showable] using hs) (fun t ht => Nat.le_trans (listText_mem_le ht) hz2)
    obtain ⟨as, rr⟩ := ZrAll.reads h4
    have hr : Reads s.heap (.ref a) (.list ds) (a :: as) := .list h1 h2 h3 rr
    have hn : a ∉ bs := not_mem_of_deeper hr (by simp only [PyData.depth]; omega) hb
    simp only [PyData.depth] at hu
    simp only [PyData.shown] at hQ
    refine call_repr_slot (by omega) ⟨o, h1, h2⟩ F.slot_list_repr.toG ?_
    obtain ⟨l⟩ := vs
    cases l with
    | nil =>
      have q : ZrAll s.heap [] ds := h4
      cases q
      have e0 := hQ s.heap (s.toks) (s.toks + 1) fun _ _ e => e
      rw [show listText (PyData.shownAll []) = "[]" from listText_nil] at e0
      exact call_list_repr_empty ⟨o, h1, h2⟩ h1 h3 ⟨_, _, rfl, e0⟩
    | cons y l => exact call_list_reprK h1 h2 h3 hn (by simpa using hk.length_eq) (fun i y e => hk.item i y (by simpa using e)) hg1 (fun b _ => Clear.nil b) (by show A.units + 1 + _ < cLine; omega) (fun _ _ e => e) (fun h' u tk hk => ⟨_, _, rfl, hQ h' u tk hk⟩) hz2
  | @tup _ o vs n ds h1 h2 h3 h4 =>
    have hz2 : (tupleText (PyData.shownAll ds)).length ≤ sizeLine := by simpa only [PyData.shown] using hz
    obtain ⟨bs, hb, hk⟩ := ZrAll.shows (prog := prog) (w := w) h4 (by simpa [PyData.showable] using hs) (fun t ht => Nat.le_trans (tupleText_mem_le ht) hz2)
    obtain ⟨as, rr⟩ := ZrAll.reads h4
    have hr : Reads s.heap (.ref a) (.tuple ds) as := .tuple h1 h2 h3 rr
    have hn : a ∉ bs := not_mem_of_deeper hr (by simp only [PyData.depth]; omega) hb
    simp only [PyData.depth] at hu
    simp only [PyData.shown] at hQ
    refine call_repr_slot (by omega) ⟨o, h1, h2⟩ F.slot_tuple_repr ?_
    exact call_tuple_reprK h1 h2 h3 hn hk hg1 (fun b _ => Clear.nil b) (by show A.units + 1 + _ < cLine; omega) (fun _ _ e => e) (fun h' u tk hk => ⟨_, _, rfl, hQ h' u tk hk⟩) hz2
  | @emp _ o es n hne h1 h2 h3 h4 =>
    exact repr_of_reads' (as := [a]) (h₀ := s.heap) (Reads.dict (as := []) (bs := []) h1 h2 h3 (by rw [h4]; exact .nil) (by rw [h4]; exact .nil)) hs (fun _ z => hne (List.mem_singleton.mp z).symm) hg hu (fun _ _ e => e) hQ hz
end
mutual
inductive Dy (K : PySem.W.Frag) (H : Hp) : V → PyData → Prop
  | non : Dy K H .non .none
  | bl (b : Bool) : Dy K H (.bl b) (.bool b)
  | int (i : Int) : Dy K H (.int i) (.int i)
  | str (x : Str) : Dy K H (.str x) (.str x)
  | tup {a : Addr} {xs : List V} {ds : List PyData} : SqT K H a xs → DyAll K H xs ds → Dy K H (.ref a) (.tuple ds)
  | lst {a : Addr} {xs : List V} {ds : List PyData} : SqL K H a xs → DyAll K H xs ds → Dy K H (.ref a) (.list ds)
  | emp {a : Addr} : H a = some (.dK []) → Dy K H (.ref a) (.dict [])
inductive DyAll (K : PySem.W.Frag) (H : Hp) : List V → List PyData → Prop
  | nil : DyAll K H [] []
  | cons {v : V} {vs : List V} {d : PyData} {ds : List PyData} : Dy K H v d → DyAll K H vs ds → DyAll K H (v :: vs) (d :: ds)
end
section
variable {X : Cx} {pins : List (Addr × Obj)} {σ : L2.St} {H : Hp} {s : Shared}
mutual
theorem Dy.zr (I : Inv X pins σ H s) : ∀ (d : PyData) (v : V) (u : Value), Dy X.K H v d → RelV v u → Zr s.heap u d
  | _, _, _, .non, r => by
    cases r
    exact .non
  | _, _, _, .bl b, r => by
    cases r
    exact .bl b
  | _, _, _, .int i, r => by
    obtain ⟨t, rfl⟩ := r
    exact .int i t
  | _, _, _, .str x, r => by
    obtain ⟨t, rfl⟩ := r
    exact .str x t
  | _, _, _, .tup hs ha, r => by
    cases r
    obtain ⟨its, rv, ⟨o, ho, hc, m, hd'⟩, hz⟩ := I.tuple hs
    exact .tup ho hc hd' (DyAll.zr I _ _ its ha rv)
  | _, _, _, .lst hs ha, r => by
    cases r
    obtain ⟨its, rv, ⟨o, m, ho, hc, _, hd'⟩, hz⟩ := I.list hs
    exact .lst ho hc hd' (DyAll.zr I _ _ its ha rv)
  | _, _, _, .emp (a := a) h, r => by
    cases r
    have hx : ObjOk X.prog X.w H s.heap a (.dK []) := I.hok a _ h
    obtain ⟨_, hne, vs, kv, o, es, ep, ho, ex, hd, _, pr, _⟩ := hx
    cases kv
    have he : es.toList = [] := by
      cases e : es.toList with
      | nil => rfl
      | cons x l =>
        rw [e] at pr
        cases pr
    exact .emp (by simpa using hne) ho ex.1 hd he
theorem DyAll.zr (I : Inv X pins σ H s) : ∀ (ds : List PyData) (vs : List V) (us : List Value), DyAll X.K H vs ds → Vals vs us → ZrAll s.heap us ds
  | _, _, _, .nil, r => by
    cases r
    exact .nil
  | _, _, _, .cons h1 h2, r => by
    cases r with
    | cons r1 r2 => exact .cons (Dy.zr I _ _ _ h1 r1) (DyAll.zr I _ _ _ h2 r2)
end
end
def rReprX (K : PySem.W.Frag) : List V → Hp → VK → Prop := fun xs H Q => (xs = [.non] ∧ Q (.str "None") H) ∨ (∃ b, xs = [.bl b] ∧ Q (.str (if b then "True" else "False")) H) ∨ (∃ z, xs = [.str z] ∧ (reprText z).length ≤ sizeLine ∧ Q (.str (reprText z)) H) ∨
  ∃ a d, xs = [.ref a] ∧ Dy K H (.ref a) d ∧ d.showable = true ∧ d.depth ≤ 100 ∧ d.shown.length ≤ sizeLine ∧ Q (.str d.shown) H
theorem call_reprX {X : Cx} (hg : X.A.guards = some []) (hu : X.A.units + 180 < cLine) : CallR X (.builtin "repr") (rReprX X.K) := by
  intro pins s σ H xs us Q I r h
  rcases h with ⟨rfl, q⟩ | ⟨b, rfl, q⟩ | ⟨z, rfl, hz, q⟩ | ⟨a, d, rfl, hd, h1, h3, h4, q⟩
  · obtain ⟨u, rfl, rx⟩ := vals1 r
    cases rx
    exact PySem.P.repr_of_none ⟨.str _, H, I.tok _, ⟨_, rfl⟩, q⟩
  · obtain ⟨u, rfl, rx⟩ := vals1 r
    cases rx
    exact PySem.P.repr_of_bool ⟨.str _, H, I.tok _, ⟨_, rfl⟩, q⟩
  · obtain ⟨u, rfl, t, rfl⟩ := vals1 r
    exact PySem.P.repr_of_str ⟨.str _, H, I.tok _, ⟨_, rfl⟩, q⟩ hz
  · obtain ⟨u, rfl, rx⟩ := vals1 r
    have rd := Dy.zr I d _ u hd rx
    obtain rfl : u = Value.ref a := rx
    refine zr_repr rd h1 hg (by omega) h4 (fun h' u tk hk => ?_)
    exact ⟨.str d.shown, H, I.kept (t' := tk) hk, ⟨u, rfl⟩, q⟩
mutual
def toY : Val → Option PyData
  | .non => some .none
  | .bl b => some (.bool b)
  | .int i => some (.int i)
  | .str x => some (.str x)
  | .tup xs => (match toYs xs with
    | some ds => some (.tuple ds)
    | none => none)
  | .ro xs => (match toYs xs with
    | some ds => some (.list ds)
    | none => none)
  | .rd [] [] => some (.dict [])
  | _ => none
def toYs : List Val → Option (List PyData)
  | [] => some []
  | x :: xs => (match toY x, toYs xs with
    | some d, some ds => some (d :: ds)
    | _, _ => none)
end
section
variable {K : PySem.W.Frag} {fr : Addr → Prop} {H : Hp} {ms : List Addr}
mutual
theorem toY_at : ∀ {x : Val} {v : V} {d : PyData}, toY x = some d → VR K fr H ms v x → Dy K H v d
  | .non, _, _, h, r => by unfold toY at h; cases h; cases r; exact .non
  | .bl b, _, _, h, r => by unfold toY at h; cases h; cases r; exact .bl b
  | .int i, _, _, h, r => by unfold toY at h; cases h; cases r; exact .int i
  | .str i, _, _, h, r => by unfold toY at h; cases h; cases r; exact .str i
  | .tup xs, _, _, h, r => by
    unfold toY at h
    split at h
    · next ds hd =>
      cases h
      cases r with
      | tup h1 h2 => exact .tup h1 (toYs_at hd h2)
    · cases h
  | .ro xs, _, _, h, r => by
    unfold toY at h
    split at h
    · next ds hd =>
      cases h
      cases r with
      | ro h1 f h2 => exact .lst (.inl (.inl h1)) (toYs_at hd h2)
    · cases h
  | .rd [] [], _, _, h, r => by
    unfold toY at h
    cases h
    cases r with
    | @rd _ _ ws _ h1 h2 h3 h4 =>
      cases ws with
      | nil => exact .emp h1
      | cons _ _ => cases h2
  | .rd (_ :: _) _, _, _, h, r => by simp [toY] at h
  | .rd [] (_ :: _), _, _, h, r => by simp [toY] at h
  | .wr _, _, _, h, r => by simp [toY] at h
  | .ref p, _, _, h, r => by simp [toY] at h
  | .ty _, _, _, h, r => by simp [toY] at h
  | .gl _, _, _, h, r => by simp [toY] at h
  | .ex0 _, _, _, h, r => by simp [toY] at h
  | .ex1 _ _ _, _, _, h, r => by simp [toY] at h
theorem toYs_at : ∀ {x : List Val} {v : List V} {d : List PyData}, toYs x = some d → VRs K fr H ms v x → DyAll K H v d
  | [], _, _, h, r => by unfold toYs at h; cases h; cases r; exact .nil
  | x :: xs, _, _, h, r => by
    unfold toYs at h
    split at h
    · next d ds h1 h2 =>
      cases h
      cases r with
      | cons a b => exact .cons (toY_at h1 a) (toYs_at h2 b)
    · cases h
end
end
def repOkX (d : PyData) : Bool := PyData.showable d && decide (d.depth ≤ 100) && decide ((PyData.shown d).length ≤ sizeLine)
def fReprX : FL1 := fun xs st => match xs with
  | [.int _] => none
  | [.non] => some (.str "None", st)
  | [.bl b] => some (.str (if b then "True" else "False"), st)
  | [.str z] => bif decide ((reprText z).length ≤ sizeLine) then some (.str (reprText z), st) else none
  | [x] => (match toY x with
    | some d => bif repOkX d then some (.str (PyData.shown d), st) else none
    | none => none)
  | _ => none
theorem rl_reprX {K : PySem.W.Frag} : RLF K (rReprX K) fReprX := fun fr H ms st xs sxs z st' Q s rx h q => by
  unfold fReprX at h
  split at h
  · cases h
  · cases h
    obtain ⟨v, rfl, r⟩ := vrs1 rx
    exact .inl ⟨by rw [vr_non r], q.now s (.str _)⟩
  · cases h
    obtain ⟨v, rfl, r⟩ := vrs1 rx
    exact .inr (.inl ⟨_, by rw [vr_bl r], q.now s (.str _)⟩)
  · obtain ⟨hb, h⟩ := cond_some h
    cases h
    obtain ⟨v, rfl, r⟩ := vrs1 rx
    exact .inr (.inr (.inl ⟨_, by rw [vr_str r], of_decide_eq_true hb, q.now s (.str _)⟩))
  · next x n4 n1 n2 n3 =>
    obtain ⟨v, rfl, r⟩ := vrs1 rx
    split at h
    · next d hd =>
      obtain ⟨hb, h⟩ := cond_some h
      cases h
      unfold repOkX at hb
      simp only [Bool.and_eq_true, decide_eq_true_eq] at hb
      by_cases ha : ∃ a, v = .ref a
      · obtain ⟨a, rfl⟩ := ha
        exact .inr (.inr (.inr ⟨a, d, rfl, toY_at hd r, hb.1.1, hb.1.2, hb.2, q.now s (.str _)⟩))
      · cases r with
        | non => exact absurd rfl n1
        | bl b => exact absurd rfl (n2 b)
        | str b => exact absurd rfl (n3 b)
        | int i => exact absurd rfl (n4 i)
        | ty n => simp [toY] at hd
        | _ => exact absurd ⟨_, rfl⟩ ha
    · cases h
  · cases h

/-- repr, of whatever is covered -/
def fReprU : FL1 := fun xs st => match fRepr xs st with
  | some r => some r
  | none => fReprX xs st
theorem call_reprV {X : Cx} (hg : X.A.guards = some []) (hu : X.A.units + 180 < cLine) : CallR X (.builtin "repr") (fun xs H Q => rRepr X.K xs H Q ∨ rReprX X.K xs H Q) := (call_reprU hg hu).or (call_reprX hg hu)
theorem rl_reprU {K : PySem.W.Frag} : RLF K (fun xs H Q => rRepr K xs H Q ∨ rReprX K xs H Q) fReprU := fun fr H ms st xs sxs z st' Q s rx h q => by
  unfold fReprU at h
  split at h
  · next r hr =>
    cases h
    exact .inl (rl_repr fr H ms st xs sxs z st' Q s rx hr q)
  · exact .inr (rl_reprX fr H ms st xs sxs z st' Q s rx h q)
section
variable {st : Store} {xs : List Val} {i : Int} {b : Bool} {z : Str} {d : PyData}
theorem reprU_of {r : Val × Store} (h : fRepr xs st = some r) : fReprU xs st = some r := by
  unfold fReprU
  rw [h]
theorem reprU_int (h : -1152921504606846976 < i ∧ i < 1152921504606846976) : fReprU [.int i] st = some (.str (toString i), st) := reprU_of (repr_int h)
theorem reprU_non : fReprU [.non] st = some (.str "None", st) := nd rfl
theorem reprU_bl : fReprU [.bl b] st = some (.str (if b then "True" else "False"), st) := nd rfl
theorem reprU_str (h : (reprText z).length ≤ sizeLine) : fReprU [.str z] st = some (.str (reprText z), st) := by
  show (bif decide ((reprText z).length ≤ sizeLine) then some (Val.str (reprText z), st) else none) = _
  rw [decide_eq_true h]
  rfl
theorem reprU_data (hd : d.canLay0 = true) (hs : (∃ ds, d = .tuple ds) ∨ ∃ ds, d = .list ds) (hr : repOk d = true) : fReprU [ofD d] st = some (.str (PyData.shown d), st) := reprU_of (repr_data hd hs hr)
end

/-- a test that holds, that doesn't: for simp with a discharger -/
theorem dT {p : Prop} {i : Decidable p} (h : p) : @decide p i = true := @decide_eq_true p i h
theorem dF {p : Prop} {i : Decidable p} (h : ¬ p) : @decide p i = false := @decide_eq_false p i h
end FL
/-! repr of small data -/
namespace FL
open PySem PyProof.Rows L2
mutual
def nice : PyData → Bool
  | .none => true
  | .bool _ => true
  | .int i => decide (i.natAbs < 10 ^ 60)
  | .str x => decide (x.cps.size ≤ 100) && x.cps.toList.all fun c => decide (c < 1114112)
  | .list ds => nices ds
  | .tuple ds => nices ds
  | .dict kvs => kvs.isEmpty
def nices : List PyData → Bool
  | [] => true
  | d :: ds => nice d && nices ds
end
mutual
def cnt : PyData → Nat
  | .list ds => cnts ds + 1
  | .tuple ds => cnts ds + 1
  | _ => 1
def cnts : List PyData → Nat
  | [] => 0
  | d :: ds => cnt d + cnts ds
end
mutual
def noL : PyData → Bool
  | .list _ => false
  | .tuple ds => noLs ds
  | _ => true
def noLs : List PyData → Bool
  | [] => true
  | d :: ds => noL d && noLs ds
end
theorem pow60 {n : Nat} (h : n < 10 ^ 60) : n.log2 < 200 := PySem.Flt.log2_lt_of (by decide) (Nat.lt_of_lt_of_le h (by decide))
theorem and2 {a b : Bool} (h : (a && b) = true) : a = true ∧ b = true := Bool.and_eq_true_iff.mp h
mutual
theorem nice_show : ∀ {d : PyData}, nice d = true → d.showable = true
  | .none, _ => rfl
  | .bool _, _ => rfl
  | .int i, h => by
    have := pow60 (of_decide_eq_true (by simpa [nice] using h))
    simp only [PyData.showable]
    exact decide_eq_true (by omega)
  | .str _, _ => rfl
  | .list ds, h => by simp only [PyData.showable]; exact nices_show (by simpa [nice] using h)
  | .tuple ds, h => by simp only [PyData.showable]; exact nices_show (by simpa [nice] using h)
  | .dict kvs, h => by
    cases kvs with
    | nil => rfl
    | cons _ _ => simp [nice] at h
theorem nices_show : ∀ {ds : List PyData}, nices ds = true → PyData.showableAll ds = true
  | [], _ => rfl
  | d :: ds, h => by
    obtain ⟨h1, h2⟩ := and2 (show (nice d && nices ds) = true by simpa [nices] using h)
    simp only [PyData.showableAll, nice_show h1, nices_show h2]
    rfl
end
mutual
theorem nice_leaf : ∀ {d : PyData}, nice d = true → d.leavesShort 64 = true
  | .none, _ => rfl
  | .bool _, _ => rfl
  | .int i, h => by
    have h1 : i.natAbs < 10 ^ 60 := of_decide_eq_true (by simpa [nice] using h)
    have e := int_text_length_le10 (k := 60) (by decide) h1
    simp only [PyData.leavesShort]
    refine decide_eq_true ?_
    show (Str.ofString (toString i)).length ≤ 64
    rw [PySem.ofString_length]
    omega
  | .str x, h => by
    obtain ⟨_, h2⟩ := and2 (show (decide (x.cps.size ≤ 100) && x.cps.toList.all fun c => decide (c < 1114112)) = true by simpa [nice] using h)
    simp only [PyData.leavesShort]
    refine List.all_eq_true.mpr fun c hc => decide_eq_true ?_
    have := of_decide_eq_true (List.all_eq_true.mp h2 c hc)
    exact Nat.lt_trans this (by decide)
  | .list ds, h => by simp only [PyData.leavesShort]; exact nices_leaf (by simpa [nice] using h)
  | .tuple ds, h => by simp only [PyData.leavesShort]; exact nices_leaf (by simpa [nice] using h)
  | .dict kvs, h => by
    cases kvs with
    | nil => rfl
    | cons _ _ => simp [nice] at h
theorem nices_leaf : ∀ {ds : List PyData}, nices ds = true → PyData.leavesShortAll 64 ds = true
  | [], _ => rfl
  | d :: ds, h => by
    obtain ⟨h1, h2⟩ := and2 (show (nice d && nices ds) = true by simpa [nices] using h)
    simp only [PyData.leavesShortAll, nice_leaf h1, nices_leaf h2]
    rfl
end
mutual
theorem nice_weight : ∀ {d : PyData}, nice d = true → d.weight + 1 ≤ 301 * cnt d
  | .none, _ => by simp [PyData.weight, cnt]
  | .bool _, _ => by simp [PyData.weight, cnt]
  | .int i, h => by
    have := pow60 (of_decide_eq_true (by simpa [nice] using h))
    simp only [PyData.weight, cnt]
    split <;> omega
  | .str x, h => by
    obtain ⟨h1, _⟩ := and2 (show (decide (x.cps.size ≤ 100) && x.cps.toList.all fun c => decide (c < 1114112)) = true by simpa [nice] using h)
    have := of_decide_eq_true h1
    simp only [PyData.weight, cnt]
    omega
  | .list ds, h => by
    have := nices_weight (ds := ds) (by simpa [nice] using h)
    simp only [PyData.weight, cnt]
    omega
  | .tuple ds, h => by
    have := nices_weight (ds := ds) (by simpa [nice] using h)
    simp only [PyData.weight, cnt]
    omega
  | .dict kvs, h => by
    cases kvs with
    | nil => simp [PyData.weight, PyData.weightKv, cnt]
    | cons _ _ => simp [nice] at h
theorem nices_weight : ∀ {ds : List PyData}, nices ds = true → PyData.weightAll ds ≤ 301 * cnts ds
  | [], _ => Nat.zero_le _
  | d :: ds, h => by
    obtain ⟨h1, h2⟩ := and2 (show (nice d && nices ds) = true by simpa [nices] using h)
    have a := nice_weight h1
    have b := nices_weight h2
    have c : 1 ≤ cnt d := by cases d <;> simp [cnt]
    simp only [PyData.weightAll, cnts]
    omega
end

theorem nice_shown {d : PyData} (h : nice d = true) (hc : cnt d ≤ 800) : (PyData.shown d).length ≤ sizeLine := by
  have h1 := PyData.shown_le 64 (by decide) d (nice_leaf h)
  have h2 := nice_weight h
  have h3 : (64 + 2) * d.weight ≤ 66 * 240800 := Nat.mul_le_mul (by omega) (by omega)
  have : sizeLine = 16777216 := by decide
  omega
mutual
theorem nice_toY : ∀ {d : PyData}, nice d = true → toY (ofD d) = some d
  | .none, _ => rfl
  | .bool _, _ => rfl
  | .int _, _ => rfl
  | .str _, _ => rfl
  | .list ds, g => by
    unfold ofD toY
    rw [nices_toY (by simpa [nice] using g)]
  | .tuple ds, g => by
    unfold ofD toY
    rw [nices_toY (by simpa [nice] using g)]
  | .dict kvs, g => by
    cases kvs with
    | nil => rfl
    | cons _ _ => simp [nice] at g
theorem nices_toY : ∀ {ds : List PyData}, nices ds = true → toYs (ofDs ds) = some ds
  | [], _ => rfl
  | d :: ds, g => by
    obtain ⟨g1, g2⟩ := and2 (show (nice d && nices ds) = true by simpa [nices] using g)
    unfold ofDs toYs
    rw [nice_toY g1, nices_toY g2]
end
mutual
theorem lay_nd : ∀ {d : PyData}, d.canLay0 = true → d.hasDict = false
  | .none, _ => rfl
  | .bool _, _ => rfl
  | .int _, _ => rfl
  | .str _, _ => rfl
  | .list ds, h => by simp only [PyData.hasDict]; exact lays_nd (by simpa [PyData.canLay0] using h)
  | .tuple ds, h => by simp only [PyData.hasDict]; exact lays_nd (by simpa [PyData.canLay0] using h)
  | .dict _, h => by simp [PyData.canLay0] at h
theorem lays_nd : ∀ {ds : List PyData}, PyData.canLayAll0 ds = true → PyData.hasDictAll ds = false
  | [], _ => rfl
  | d :: ds, h => by
    obtain ⟨h1, h2⟩ := and2 (show (d.canLay0 && PyData.canLayAll0 ds) = true by simpa [PyData.canLayAll0] using h)
    simp only [PyData.hasDictAll, lay_nd h1, lays_nd h2]
    rfl
end
/-- repr of small data comes to a text -/
theorem repr_any {d : PyData} {st : Store} (h : nice d = true) (hc : cnt d ≤ 800) (hd : d.depth ≤ 60) : ∃ s, fReprU [ofD d] st = some (.str s, st) := by
  have hs := nice_shown h hc
  have hw := nice_show h
  have big : ∀ x, ofD d = x → (∀ st, fRepr [x] st = match toD st x with
      | some d => bif repOk d then some (.str (PyData.shown d), st) else none
      | none => none) → (∀ st, fReprX [x] st = match toY x with
      | some d => bif repOkX d then some (.str (PyData.shown d), st) else none
      | none => none) → ((∃ ds, d = .tuple ds) ∨ ∃ ds, d = .list ds) ∨ d = .dict [] → ∃ s, fReprU [x] st = some (.str s, st) := by
    intro x hx hf hg hk
    unfold fReprU
    rw [hf, hg]
    by_cases hcl : d.canLay0 = true
    · have ho : repOk d = true := by
        unfold repOk
        rw [hw, decide_eq_true (show d.depth ≤ 100 by omega), decide_eq_true hs, lay_nd hcl]
        rfl
      rw [← hx, toD_of hcl]
      dsimp only
      rw [ho]
      exact ⟨_, rfl⟩
    · have ho : repOkX d = true := by
        unfold repOkX
        rw [hw, decide_eq_true (show d.depth ≤ 100 by omega), decide_eq_true hs]
        rfl
      have hy := nice_toY h
      rw [hx] at hy
      rw [hy]
      dsimp only
      rw [ho]
      cases ht : toD st x with
      | none => exact ⟨_, rfl⟩
      | some e =>
        dsimp only
        cases repOk e <;> exact ⟨_, rfl⟩
  cases d with
  | none => exact ⟨_, rfl⟩
  | bool b => exact ⟨_, rfl⟩
  | int i =>
    have := pow60 (of_decide_eq_true (by simpa [nice] using h))
    refine ⟨toString i, reprU_of ?_⟩
    unfold fRepr
    simp only [ofD]
    rw [decide_eq_true (by omega)]
    rfl
  | str x =>
    obtain ⟨h1, h2⟩ := and2 (show (decide (x.cps.size ≤ 100) && x.cps.toList.all fun c => decide (c < 1114112)) = true by simpa [nice] using h)
    have := of_decide_eq_true h1
    have hr := PySem.StrLaws.reprText_len x fun c hc => Nat.lt_trans (of_decide_eq_true (List.all_eq_true.mp h2 c hc)) (by decide)
    have hl : x.length = x.cps.size := rfl
    have : sizeLine = 16777216 := by decide
    exact ⟨_, reprU_str (by omega)⟩
  | list ds => exact big (ofD (.list ds)) rfl (fun _ => rfl) (fun _ => rfl) (.inl (.inr ⟨_, rfl⟩))
  | tuple ds => exact big (ofD (.tuple ds)) rfl (fun _ => rfl) (fun _ => rfl) (.inl (.inl ⟨_, rfl⟩))
  | dict kvs =>
    cases kvs with
    | nil => exact big (ofD (.dict [])) rfl (fun _ => rfl) (fun _ => rfl) (.inr rfl)
    | cons _ _ => simp [nice] at h
theorem repr_nice {d : PyData} {st : Store} (h : nice d = true) (hc : cnt d ≤ 500) (hd : d.depth ≤ 60) (_ : d.canLay0 = true ∨ noL d = true) : ∃ s, fReprU [ofD d] st = some (.str s, st) := repr_any h (Nat.le_trans hc (by decide)) hd
end FL
/-! texts' methods -/
namespace FL
open PySem PySem.Spec PyProof.Rows L2
section
variable {X : Cx} {W : WX} {e : Expr} {te : FE} {pos apos : Pos}
/-- e.upper() -/
def eUpper (te : FE) : FE := fun ρ st => (te ρ st).bind fun x st1 => match x with
  | .str s => bif decide (s.length ≤ 5592405) then .ok (.str (Txt.upper s)) st1 else .bad
  | _ => .bad
theorem d_upper (he : DE X W e te) (hb : attributeBase e "upper" X.env (eval e X.env) = eval e X.env := by rfl) (hl : (apos.endLine == pos.line) = true := by rfl) : DE X W (.Call (.Attribute e "upper" apos) [] [] pos) (eUpper te) :=
  pe_imp (pe_upper he (hbase := hb) (hline := hl)) fun σ H Q ⟨fr, ms, ρ, st, w, g⟩ => ⟨fr, ms, ρ, st, w, g.bind.mono fun x st1 fr1 H1 ms1 _ _ ⟨e1, s1, g1⟩ v rv => by
    cases x with
    | str z =>
      obtain ⟨hb, g2⟩ := (show G X.K W σ fr1 H1 ms1 (bif decide (z.length ≤ 5592405) then R.ok (.str (Txt.upper z)) st1 else .bad) (PV X.K Q) from g1).cond
      have := vr_str rv
      subst this
      exact ⟨⟨_, rfl⟩, _, rfl, rfl, of_decide_eq_true hb, g2.now s1 _ (.str _)⟩
    | _ => exact g1.elim⟩
end
section
variable {ρ : FL.Env} {st : Store} {s : Str} {te : FE}
def kUpper : Val → Store → R Val := fun x st1 => match x with
  | .str s => bif decide (s.length ≤ 5592405) then .ok (.str (Txt.upper s)) st1 else .bad
  | _ => .bad
theorem eUpper_eq : eUpper te ρ st = (te ρ st).bind kUpper := nd rfl
theorem kUpper_eq (h : s.length ≤ 5592405) : kUpper (.str s) st = .ok (.str (Txt.upper s)) st := by
  show (bif decide (s.length ≤ 5592405) then _ else _) = _
  rw [decide_eq_true h]
  rfl
end
section
variable {ρ : FL.Env} {st : Store} {te ta : FE} {p : Nat}
def onP (o q : Option (List Val)) (p : Nat) (s : Store) : R Val := match o, q with
  | some xs, some zs => bif Nat.ble (xs.length + zs.length) sizeLine then .ok .non (s.set p (.lst (xs ++ zs))) else .bad
  | _, _ => .bad
theorem onP_eq {xs zs : List Val} {s : Store} (h : xs.length + zs.length ≤ 10000) : onP (some xs) (some zs) p s = .ok .non (s.set p (.lst (xs ++ zs))) := by
  show (bif Nat.ble (xs.length + zs.length) sizeLine then R.ok Val.non (s.set p (.lst (xs ++ zs))) else .bad) = _
  rw [ble_sz h]
  rfl
def kX3 (p : Nat) : Val → Store → R Val := fun y s => onP (lstAt s p) (plOf s y) p s
theorem kX3_ro {zs : List Val} {s : Store} : kX3 p (.ro zs) s = onP (match s[p]? with | some (.lst xs) => some xs | _ => none) (some zs) p s := nd rfl
theorem kX3_ref {q : Nat} {s : Store} : kX3 p (.ref q) s = onP (match s[p]? with | some (.lst xs) => some xs | _ => none) (match s[q]? with | some (.lst xs) => some xs | _ => none) p s := nd rfl
def kX2 (ta : FE) (ρ : FL.Env) (p : Nat) (s : Store) : List Val → R Val := fun _ => (ta ρ s).bind (kX3 p)
theorem kX2_eq {xs : List Val} {s : Store} : kX2 ta ρ p s xs = (ta ρ s).bind (kX3 p) := nd rfl
def kX1 (ta : FE) (ρ : FL.Env) : Val → Store → R Val := fun x s => match x with
  | .ref p => onL (lstAt s p) (kX2 ta ρ p s)
  | _ => .bad
theorem kX1_eq {s : Store} : kX1 ta ρ (.ref p) s = onL (match s[p]? with | some (.lst xs) => some xs | _ => none) (kX2 ta ρ p s) := nd rfl
theorem eExt_eq : eExt te ta ρ st = (te ρ st).bind (kX1 ta ρ) := by
  unfold eExt
  congr 1
end
/-- is True, is not True: of truths -/
def fIsB (neg : Bool) : F2 := fun x y st => match x, y with
  | .bl a, .bl b => some (.bl (bif neg then !decide (a = b) else decide (a = b)), st)
  | _, _ => none
theorem r2_isB {K : PySem.W.Frag} : R2F K rIsB (fIsB false) := fun fr H ms st x y sx sy z st' Q s rx ry h q => by
  unfold fIsB at h
  split at h
  · cases h
    exact ⟨_, _, vr_bl rx, vr_bl ry, q.now s (.bl _)⟩
  · cases h
theorem r2_notB {K : PySem.W.Frag} : R2F K rNotB (fIsB true) := fun fr H ms st x y sx sy z st' Q s rx ry h q => by
  unfold fIsB at h
  split at h
  · cases h
    exact ⟨_, _, vr_bl rx, vr_bl ry, q.now s (.bl _)⟩
  · cases h
theorem fIsB_eq {n a b : Bool} {st : Store} : fIsB n (.bl a) (.bl b) st = some (.bl (bif n then !decide (a = b) else decide (a = b)), st) := nd rfl
end FL
namespace FL
/-- the equations of the readings, all -/
def seval := And.intro (And.intro (And.intro (And.intro (And.intro (And.intro (And.intro (And.intro (@cond_t) (And.intro (@cond_f) (@dec_t))) (And.intro (And.intro (@dec_f) (@not_t)) (And.intro (@not_f) (@and_t)))) (And.intro (And.intro (@and_f) (And.intro (@or_t) (@or_f))) (And.intro (And.intro (@and_t') (@or_f')) (And.intro (@R.bind_ok) (@R.bind_exc))))) (And.intro (And.intro (And.intro (@R.to_ok) (And.intro (@R.to_exc) (@R.opt_some))) (And.intro (And.intro (@then_nx) (@then_rt)) (And.intro (@then_bk) (@then_ct)))) (And.intro (And.intro (@then_ex) (And.intro (@turnP_nx) (@turnP_ct))) (And.intro (And.intro (@turnP_bk) (@turnP_rt)) (And.intro (@turnP_ex) (@fst_eq)))))) (And.intro (And.intro (And.intro (And.intro (@snd_eq) (And.intro (@set_z) (@set_s))) (And.intro (And.intro (@eV_z) (@eV_s)) (And.intro (@eC_eq) (@wipeF_nil)))) (And.intro (And.intro (@wipeF_cons) (And.intro (@startF_nil) (@startF_cons))) (And.intro (And.intro (@rep_z) (@rep_s)) (And.intro (@lenB_nil) (@lenB_cons))))) (And.intro (And.intro (And.intro (@fnF_eq) (And.intro (@retF_rt) (@retF_nx))) (And.intro (And.intro (@retF_ex) (@retF_rtz)) (And.intro (@retF_nxz) (@retF_exz)))) (And.intro (And.intro (@sNext_eq) (And.intro (@sBrk_eq) (@sCnt_eq))) (And.intro (And.intro (@sSeq_eq) (@kDrop_eq)) (And.intro (@sDrop_eq) (@kRet_eq))))))) (And.intro (And.intro (And.intro (And.intro (And.intro (@sRet_eq) (And.intro (@sRetN_eq) (@kIf_t))) (And.intro (And.intro (@kIf_f) (@sIf_eq)) (And.intro (@kSet_eq) (@sSet_eq)))) (And.intro (And.intro (@kPar_eq) (And.intro (@sPar_eq) (@kPar3_eq))) (And.intro (And.intro (@sPar3_eq) (@ofG_some)) (And.intro (@kAsg_eq) (@sAsg_eq))))) (And.intro (And.intro (And.intro (@kUnp_eq) (And.intro (@sUnp_eq) (@sWipe_eq))) (And.intro (And.intro (@wiped_nx) (@wiped_bk)) (And.intro (@wiped_ct) (@wiped_rt)))) (And.intro (And.intro (@wiped_ex) (And.intro (@kFor_eq) (@sFor_eq))) (And.intro (And.intro (@sWhile_eq) (@kRaise_1)) (And.intro (@kRaise_0) (@sRaise_eq)))))) (And.intro (And.intro (And.intro (And.intro (@sTry_eq) (And.intro (@caught_nx) (@caught_rt))) (And.intro (And.intro (@caught_ex) (@thenG_some)) (And.intro (@gN_eq) (@gNil_eq)))) (And.intro (And.intro (@gCons_eq) (And.intro (@gTup_eq) (@gSub_eq))) (And.intro (And.intro (@kSub1_ok) (@kSub2_ok)) (And.intro (@kOp2_eq) (@kOp1_eq))))) (And.intro (And.intro (And.intro (@eOp_eq) (And.intro (@kUn_eq) (@eUn_eq))) (And.intro (And.intro (@kB_eq) (@tB_eq)) (And.intro (@kCh4_eq) (@kCh3_t)))) (And.intro (And.intro (And.intro (@kCh3_f) (@kCh2_eq)) (And.intro (@kCh1_eq) (@eChain_eq))) (And.intro (And.intro (@kAnd_t) (@kAnd_f)) (And.intro (@tAnd_eq) (@kOr_t)))))))) (And.intro (And.intro (And.intro (And.intro (And.intro (And.intro (@kOr_f) (And.intro (@tOr_eq) (@kNot_eq))) (And.intro (And.intro (@tNot_eq) (@tYes_eq)) (And.intro (@kEAnd_t) (@kEAnd_f)))) (And.intro (And.intro (@eAnd_eq) (And.intro (@kEOr_t) (@kEOr_f))) (And.intro (And.intro (@eOr_eq) (@kENot_eq)) (And.intro (@eNot_eq) (@kEIf_t))))) (And.intro (And.intro (And.intro (@kEIf_f) (And.intro (@eIf_eq) (@aNil_eq))) (And.intro (And.intro (@kCons2_eq) (@kCons1_eq)) (And.intro (@aCons_eq) (@kTup_eq)))) (And.intro (And.intro (@eTup_eq) (And.intro (@okL_f) (@okL_t))) (And.intro (And.intro (@kLst_eq) (@eLst_eq)) (And.intro (@newL_f) (@newL_t)))))) (And.intro (And.intro (And.intro (And.intro (@app_nil) (And.intro (@app_cons) (@nil_app))) (And.intro (And.intro (@kCall_eq) (@eCall_eq)) (And.intro (@kCallK_eq) (@eCallK_eq)))) (And.intro (And.intro (@kCallM2_eq) (And.intro (@kCallM1_eq) (@eCallM_eq))) (And.intro (And.intro (@byPl_nil') (@byPl_cons)) (And.intro (@nthA_z) (@nthA_s))))) (And.intro (And.intro (And.intro (@kBf_eq) (And.intro (@eB_eq) (@mOut_some))) (And.intro (And.intro (@kM3_eq) (@kM2_eq)) (And.intro (@kM1'_eq) (@kM1_eq)))) (And.intro (And.intro (And.intro (@onL_some) (@eM_eq)) (And.intro (@kSl3_eq) (@kSl2_eq))) (And.intro (And.intro (@kSl1_eq) (@eSl_eq)) (And.intro (@oNo_eq) (@kAt_eq))))))) (And.intro (And.intro (And.intro (And.intro (And.intro (@oAt_eq) (And.intro (@kIsi_non) (@kIsi_bl))) (And.intro (And.intro (@kIsi_int) (@kIsi_str)) (And.intro (@kIsi_tup) (@kIsi_ro)))) (And.intro (And.intro (@kIsi_wr) (And.intro (@kIsi_rd) (@eIsi_eq))) (And.intro (And.intro (@kTru_non) (@kTru_bl)) (And.intro (@kTru_int) (@kTru_tup))))) (And.intro (And.intro (And.intro (@kTru_ro) (And.intro (@tTru_eq) (@kRev_eq))) (And.intro (And.intro (@eRev_eq) (@kMk1_eq)) (And.intro (@eMk1_eq) (@lcOut_some)))) (And.intro (And.intro (@kLc_eq) (And.intro (@eLc_eq) (@lcEnd_ok))) (And.intro (And.intro (@lcTst_t) (@lcTst_f)) (And.intro (@lcTg_some) (@lc1_eq)))))) (And.intro (And.intro (And.intro (And.intro (@curR_some) (And.intro (@kSeq_eq) (@iSeq_eq))) (And.intro (And.intro (@kRg1_eq) (@iRg1_eq)) (And.intro (@kRg2_eq) (@iRg2_eq)))) (And.intro (And.intro (@enR_some) (And.intro (@kEn_eq) (@iEn_eq))) (And.intro (And.intro (@zpR_some) (@kZp_eq)) (And.intro (@iZpB_eq) (@kRgL1_eq))))) (And.intro (And.intro (And.intro (@eListRg1_eq) (And.intro (@kRgT1_eq) (@eTupRg1_eq))) (And.intro (And.intro (@kRgL2_eq) (@kRgL2a_eq)) (And.intro (@eListRg2_eq) (@kRgT2_eq)))) (And.intro (And.intro (And.intro (@kRgT2a_eq) (@eTupRg2_eq)) (And.intro (@cur_tup) (@cur_ro))) (And.intro (And.intro (@cur_wr) (@enC_c)) (And.intro (@seq_tup) (@seq_ro))))))))) (And.intro (And.intro (And.intro (And.intro (And.intro (And.intro (And.intro (@seq_wr) (And.intro (@lst_ro) (@lst_wr))) (And.intro (And.intro (@pl_ro) (@store_set)) (And.intro (@store_set_ne) (@store_app)))) (And.intro (And.intro (@fAdd_i) (And.intro (@fSub_i) (@fMod_i))) (And.intro (And.intro (@fMul_i) (@fDiv_i)) (And.intro (@fLt_i) (@fLe_i))))) (And.intro (And.intro (And.intro (@fGt_i) (And.intro (@fGe_i) (@fNeg_i))) (And.intro (And.intro (@fEq_i) (@fNe_i)) (And.intro (@fEq_s) (@fNe_s)))) (And.intro (And.intro (@fIsN_eq) (And.intro (@isN_non) (@isN_bl))) (And.intro (And.intro (@isN_int) (@isN_str)) (And.intro (@isN_tup) (@isN_ro)))))) (And.intro (And.intro (And.intro (And.intro (@isN_ref) (And.intro (@isN_ex1) (@isN_ex0))) (And.intro (And.intro (@ble_sz) (@fAdd_tup)) (And.intro (@fAdd_ro) (@okRg_eq)))) (And.intro (And.intro (@fLen_tup) (And.intro (@rev_map) (@len_map))) (And.intro (And.intro (@revF_tup) (@revF_ro)) (And.intro (@lstAt_eq1) (@dicAt_eq1))))) (And.intro (And.intro (And.intro (@seq_ref1) (And.intro (@lst_ref1) (@pl_ref1))) (And.intro (And.intro (@cur_ref1) (@dict_ref1)) (And.intro (@seq_int1) (@seq_str1)))) (And.intro (And.intro (And.intro (@seq_non1) (@seq_bl1)) (And.intro (@seq_rd1) (@dict_rd1))) (And.intro (And.intro (@at_0) (@at_1)) (And.intro (@at_2) (@at_3))))))) (And.intro (And.intro (And.intro (And.intro (And.intro (@at_4) (And.intro (@at_5) (@at_map))) (And.intro (And.intro (@map_some) (@at_ints)) (And.intro (@ixN_in) (@ix_tup)))) (And.intro (And.intro (@ix_ro) (And.intro (@ix_wr) (@ix_ref1))) (And.intro (And.intro (@len_ro) (@len_tup)) (And.intro (@len_wr) (@len_ref))))) (And.intro (And.intro (And.intro (@len_nil) (And.intro (@len_cons) (@len_app))) (And.intro (And.intro (@len_rngs) (@len_set)) (And.intro (@ty_non) (@ty_bl)))) (And.intro (And.intro (@ty_int) (And.intro (@ty_str) (@ty_tup))) (And.intro (And.intro (@ty_ro) (@ty_rd)) (And.intro (@le_nn) (@le_bi)))))) (And.intro (And.intro (And.intro (And.intro (@le_bs) (And.intro (@le_bt) (@le_bl))) (And.intro (And.intro (@le_bd) (@le_ib)) (And.intro (@le_is) (@le_it)))) (And.intro (And.intro (@le_il) (And.intro (@le_id) (@le_si))) (And.intro (And.intro (@le_sb) (@le_st)) (And.intro (@le_sl) (@le_sd))))) (And.intro (And.intro (And.intro (@le_ti) (And.intro (@le_tb) (@le_ts))) (And.intro (And.intro (@le_tl) (@le_td)) (And.intro (@le_li) (@le_lb)))) (And.intro (And.intro (And.intro (@le_ls) (@le_lt)) (And.intro (@le_ld) (@le_ni))) (And.intro (And.intro (@le_nb) (@le_ns)) (And.intro (@le_nt) (@le_nl)))))))) (And.intro (And.intro (And.intro (And.intro (And.intro (And.intro (@le_nd) (And.intro (@le_di) (@le_db))) (And.intro (And.intro (@le_ds) (@le_dt)) (And.intro (@le_dl) (@list_ro)))) (And.intro (And.intro (@list_tup) (And.intro (@list_wr) (@list_ref))) (And.intro (And.intro (@tuple_tup) (@tuple_ro)) (And.intro (@tuple_wr) (@tuple_ref))))) (And.intro (And.intro (And.intro (@int_i) (And.intro (@int_b) (@ints_of))) (And.intro (And.intro (@bools_of) (@sum_eq1)) (And.intro (@all_eq1) (@any_eq1)))) (And.intro (And.intro (@intsIn_ro) (And.intro (@boolsIn_ro) (@boolsIn_ref))) (And.intro (And.intro (@intsIn_ref) (@intsIn_tup)) (And.intro (@max2_eq) (@min2_eq)))))) (And.intro (And.intro (And.intro (And.intro (@app_eq) (And.intro (@clr_eq) (@sl_tup))) (And.intro (And.intro (@sl_ro) (@sl_wr)) (And.intro (@sl_ref) (@cut_to')))) (And.intro (And.intro (@cut_from') (And.intro (@cut_all') (@cut_mid))) (And.intro (And.intro (@toNat_cast) (@take_map)) (And.intro (@drop_map) (@eraseIdx_map))))) (And.intro (And.intro (And.intro (@tru_non) (And.intro (@tru_bl) (@tru_int))) (And.intro (And.intro (@tru_tup) (@tru_ro)) (And.intro (@below_int) (@below_bl)))) (And.intro (And.intro (And.intro (@below_non) (@below_str)) (And.intro (@below_tup) (@below_ro))) (And.intro (And.intro (@belows_nil) (@belows_cons)) (And.intro (@belows_app) (@belows_ints))))))) (And.intro (And.intro (And.intro (And.intro (And.intro (@store_last) (And.intro (@store_put) (@putAt_last))) (And.intro (And.intro (@set_ints) (@in_ro)) (And.intro (@in_tup) (@nin_ro)))) (And.intro (And.intro (@nin_tup) (And.intro (@zpC_c) (@zpC_f))) (And.intro (And.intro (@pow18) (@pow50)) (And.intro (@pow59) (@eq_tup))))) (And.intro (And.intro (And.intro (@ne_tup) (And.intro (@eq_ro) (@ne_ro))) (And.intro (And.intro (@eq_ro0) (@ne_ro0)) (And.intro (@repr_int) (@eq_bl)))) (And.intro (And.intro (@ne_bl) (And.intro (@dec_bb) (@dec_tf))) (And.intro (And.intro (@dec_ft) (@hnd_nil)) (And.intro (@hnd_cons) (@hndR_t)))))) (And.intro (And.intro (And.intro (And.intro (@hndR_f) (And.intro (@unname_nx) (@unname_rt))) (And.intro (And.intro (@unname_nx0) (@unname_rt0)) (And.intro (@putAt_some) (@putAt_none)))) (And.intro (And.intro (@xvV_1) (And.intro (@xvV_0) (@eXf_eq))) (And.intro (And.intro (@isN_ty) (@isN_gl)) (And.intro (@eDictZ_eq) (@eDict0_eq))))) (And.intro (And.intro (And.intro (@catR_eq) (And.intro (@fAdd_rr) (@fAdd_rr2))) (And.intro (And.intro (@fAdd_rr3) (@reprU_int)) (And.intro (@reprU_non) (@reprU_bl)))) (And.intro (And.intro (And.intro (@eUpper_eq) (@onP_eq)) (And.intro (@kX3_ro) (@kX3_ref))) (And.intro (And.intro (@kX2_eq) (@kX1_eq)) (And.intro (@eExt_eq) (@fIsB_eq)))))))))
end FL
namespace Law
open PySem PySem.Spec PyProof.Rows L2 FL
def tbE : ClsT := tabO []
-- BLOCK law_fresh
def r_law_fresh_0 : FS := fun ρ st => (sRet (eV 5)) ρ st
def b_law_fresh_0 : FS := sWipe [0, 6] (sSeq (sSet 4 (eOp (fMod) (eOp (fAdd false) (eOp (fAdd false) (eOp (fMul false) (eV 4) (eV 4)) (eOp (fMul false) (eOp (fMul false) (eC (.int 69621)) (eOp (fAdd false) (eV 6) (eC (.int 1)))) (eOp (fAdd false) (eV 1) (eC (.int 1))))) (eV 2)) (eV 3)))
  (sSet 5 (eOp (fAdd false) (eOp (fMul false) (eV 5) (eV 3)) (eV 4))))
def r_law_fresh_1 : FS := fun ρ st => (sSeq (sSet 3 (eC (.int 2305843009213693951)))
  (sSeq (sSet 4 (eOp (fMod) (eOp (fAdd false) (eOp (fAdd false) (eOp (fMul false) (eV 2) (eC (.int 48271))) (eOp (fMul false) (eC (.int 40692)) (eV 1))) (eC (.int 31))) (eV 3)))
  (sSeq (sSet 5 (eV 4))
  (sSeq (sFor [0, 6] (iRg1 (aCons (eC (.int 6)) aNil)) (gN 6) b_law_fresh_0)
  r_law_fresh_0)))) ρ st
def r_law_fresh_2 : FS := fun ρ st => (sSeq (sIf (tAnd (tB (eOp fLt (eV 1) (eB fLen (aCons (eOp fIx (eV 0) (eC (.int 0))) aNil)))) (tB (eOp fGe (eV 2) (eOp (fPow) (eC (.int 10)) (eC (.int 18)))))) (sRet (eOp (fSub) (eV 2) (eOp (fPow) (eC (.int 10)) (eC (.int 18))))) sNext)
  r_law_fresh_1) ρ st
def t_law_fresh : FS := fun ρ st => (sSeq (sSet 1 (eOp fIx (eV 0) (eC (.int 1))))
  (sSeq (sAsg (eOp (fAdd false) (eV 1) (eC (.int 1))) (gSub (eV 0) (eC (.int 1))))
  (sSeq (sSet 2 (eC (.int 0)))
  (sSeq (sIf (tB (eOp (fEq true) (eOp fIx (eV 0) (eC (.int 0))) (eLst false aNil))) (sSet 2 (eOp fIx (eOp fIx (eV 0) (eC (.int 0))) (eOp (fMod) (eV 1) (eB fLen (aCons (eOp fIx (eV 0) (eC (.int 0))) aNil))))) sNext)
  r_law_fresh_2)))) ρ st
def F_law_fresh : List Val → Store → R Val := fnF false 1 7 t_law_fresh
-- BLOCK law_draw
def r_law_draw_0 : FS := fun ρ st => (sSeq (sSet 2 (eOp (fMod) (eOp fIx (eV 0) (eC (.int 2))) (eV 1)))
  (sSeq (sAsg (eOp (fDiv) (eOp fIx (eV 0) (eC (.int 2))) (eV 1)) (gSub (eV 0) (eC (.int 2))))
  (sRet (eV 2)))) ρ st
def t_law_draw : FS := fun ρ st => (sSeq (sIf (tB (eOp fLt (eOp fIx (eV 0) (eC (.int 2))) (eV 1))) (sAsg (eCall F_law_fresh [] (aCons (eV 0) aNil)) (gSub (eV 0) (eC (.int 2)))) sNext)
  r_law_draw_0) ρ st
def F_law_draw : List Val → Store → R Val := fnF false 2 3 t_law_draw
-- BLOCK law_bent_row
def r_law_bent_row_0 : FS := fun ρ st => (sSeq (sSet 5 (eLst false (aCons (eV 1) (aCons (eTup (aCons (eV 2) aNil)) (aCons (eTup (aCons (eV 2) (aCons (eV 3) (aCons (eC (.int 0)) aNil)))) (aCons (eTup (aCons (eV 3) (aCons (eV 2) aNil))) (aCons (eTup (aCons (eV 2) (aCons (eB fTuple (aCons (eLc false (iSeq (eV 3)) (gN 6) tYes (eOp (fEq false) (eV 6) (eC (.int 1))) [6]) aNil)) aNil))) (aCons (eB (fList false) (aCons (eV 1) aNil)) (aCons (eLst false (aCons (eV 1) aNil)) aNil)))))))))
  (sRet (eOp fIx (eV 5) (eCall F_law_draw [] (aCons (eV 0) (aCons (eC (.int 7)) aNil)))))) ρ st
def r_law_bent_row_1 : FS := fun ρ st => (sSeq (sIf (tB (eOp (fEq false) (eV 4) (eC (.int 4)))) (sRet (eTup (aCons (eOp (fAdd false) (eSl false (eV 2) (oAt (eC (.int 1))) oNo) (eTup (aCons (eC (.int 6)) aNil))) (aCons (eV 3) aNil)))) sNext)
  r_law_bent_row_0) ρ st
def r_law_bent_row_2 : FS := fun ρ st => (sSeq (sIf (tB (eOp (fEq false) (eV 4) (eC (.int 3)))) (sRet (eTup (aCons (eV 2) (aCons (eB (fList false) (aCons (eV 3) aNil)) aNil)))) sNext)
  r_law_bent_row_1) ρ st
def r_law_bent_row_3 : FS := fun ρ st => (sSeq (sIf (tB (eOp (fEq false) (eV 4) (eC (.int 2)))) (sRet (eTup (aCons (eB (fList false) (aCons (eV 2) aNil)) (aCons (eV 3) aNil)))) sNext)
  r_law_bent_row_2) ρ st
def r_law_bent_row_4 : FS := fun ρ st => (sSeq (sIf (tB (eOp (fEq false) (eV 4) (eC (.int 1)))) (sRet (eTup (aCons (eV 2) (aCons (eOp (fAdd false) (eV 3) (eTup (aCons (eC (.int 6)) aNil))) aNil)))) sNext)
  r_law_bent_row_3) ρ st
def t_law_bent_row : FS := fun ρ st => (sSeq (sAsg (eV 1) (gTup 2 (gCons (gN 2) (gCons (gN 3) gNil))))
  (sSeq (sSet 4 (eCall F_law_draw [] (aCons (eV 0) (aCons (eC (.int 6)) aNil))))
  (sSeq (sIf (tB (eOp (fEq false) (eV 4) (eC (.int 0)))) (sRet (eTup (aCons (eV 2) (aCons (eRev false (eV 3)) aNil)))) sNext)
  r_law_bent_row_4))) ρ st
def F_law_bent_row : List Val → Store → R Val := fnF false 2 7 t_law_bent_row
-- BLOCK law_bent_cover
def r_law_bent_cover_0 : FS := fun ρ st => (sRet (eOp (fAdd false) (eOp (fAdd false) (eSl false (eV 1) oNo (oAt (eV 2))) (eLst false (aCons (eCall F_law_bent_row [] (aCons (eV 0) (aCons (eOp fIx (eV 1) (eV 2)) aNil))) aNil))) (eSl false (eV 1) (oAt (eOp (fAdd false) (eV 2) (eC (.int 1)))) oNo))) ρ st
def r_law_bent_cover_1 : FS := fun ρ st => (sSeq (sIf (tB (eOp (fEq false) (eV 3) (eC (.int 3)))) (sRet (eB fTuple (aCons (eV 1) aNil))) sNext)
  r_law_bent_cover_0) ρ st
def r_law_bent_cover_2 : FS := fun ρ st => (sSeq (sIf (tB (eOp (fEq false) (eV 3) (eC (.int 2)))) (sRet (eRev false (eV 1))) sNext)
  r_law_bent_cover_1) ρ st
def r_law_bent_cover_3 : FS := fun ρ st => (sSeq (sIf (tB (eOp (fEq false) (eV 3) (eC (.int 1)))) (sRet (eOp (fAdd false) (eSl false (eV 1) oNo (oAt (eOp (fAdd false) (eV 2) (eC (.int 1))))) (eSl false (eV 1) (oAt (eV 2)) oNo))) sNext)
  r_law_bent_cover_2) ρ st
def t_law_bent_cover : FS := fun ρ st => (sSeq (sSet 2 (eCall F_law_draw [] (aCons (eV 0) (aCons (eB fLen (aCons (eV 1) aNil)) aNil))))
  (sSeq (sSet 3 (eCall F_law_draw [] (aCons (eV 0) (aCons (eC (.int 6)) aNil))))
  (sSeq (sIf (tB (eOp (fEq false) (eV 3) (eC (.int 0)))) (sRet (eOp (fAdd false) (eSl false (eV 1) oNo (oAt (eV 2))) (eSl false (eV 1) (oAt (eOp (fAdd false) (eV 2) (eC (.int 1)))) oNo))) sNext)
  r_law_bent_cover_3))) ρ st
def F_law_bent_cover : List Val → Store → R Val := fnF false 2 4 t_law_bent_cover
-- BLOCK law_bent
def r_law_bent_0 : FS := fun ρ st => (sRet (eTup (aCons (eV 7) (aCons (eOp fIx (eLst false (aCons (eOp (fMod) (eOp (fAdd false) (eV 8) (eC (.int 1))) (eV 2)) (aCons (eOp (fAdd false) (eV 8) (eV 2)) (aCons (eUn fNeg (eV 8)) (aCons (eOp (fEq false) (eV 8) (eC (.int 1))) (aCons (eTup (aCons (eV 8) aNil)) aNil)))))) (eCall F_law_draw [] (aCons (eV 0) (aCons (eC (.int 5)) aNil)))) (aCons (eV 9) aNil))))) ρ st
def r_law_bent_1 : FS := fun ρ st => (sSeq (sAsg (eV 1) (gTup 3 (gCons (gN 7) (gCons (gN 8) (gCons (gN 9) gNil)))))
  (sSeq (sIf (tB (eOp fLt (eV 5) (eC (.int 5)))) (sSeq (sSet 6 (eLst false (aCons (eOp (fAdd false) (eV 9) (eTup (aCons (eC (.int 6)) aNil))) (aCons (eSl false (eV 9) (oAt (eC (.int 1))) oNo) (aCons (eRev false (eV 9)) (aCons (eB (fList false) (aCons (eV 9) aNil)) (aCons (eOp (fAdd false) (eV 9) (eV 9)) (aCons (eTup (aCons (eC (.int 0)) aNil)) (aCons (eB fTuple (aCons (eLc false (iSeq (eV 9)) (gN 10) tYes (eOp (fEq false) (eV 10) (eC (.int 1))) [10]) aNil)) aNil)))))))))
  (sRet (eTup (aCons (eV 7) (aCons (eV 8) (aCons (eOp fIx (eV 6) (eCall F_law_draw [] (aCons (eV 0) (aCons (eC (.int 7)) aNil)))) aNil)))))) sNext)
  r_law_bent_0)) ρ st
def r_law_bent_2 : FS := fun ρ st => (sSeq (sIf (tB (eOp (fEq false) (eOp fIx (eV 1) (eC (.int 0))) (eC (.str "none")))) (sRet (eTup (aCons (eC (.str "none")) (aCons (eCall F_law_bent_cover [] (aCons (eV 0) (aCons (eOp fIx (eV 1) (eC (.int 1))) aNil))) aNil)))) sNext)
  r_law_bent_1) ρ st
def r_law_bent_3 : FS := fun ρ st => (sSeq (sIf (tB (eOp (fEq false) (eV 5) (eC (.int 2)))) (sRet (eOp (fAdd false) (eTup (aCons (eOp fIx (eLst false (aCons (eUpper (eOp fIx (eV 1) (eC (.int 0)))) (aCons (eC (.str "none")) (aCons (eC (.str "number")) aNil)))) (eCall F_law_draw [] (aCons (eV 0) (aCons (eC (.int 3)) aNil)))) aNil)) (eSl false (eV 1) (oAt (eC (.int 1))) oNo))) sNext)
  r_law_bent_2) ρ st
def r_law_bent_4 : FS := fun ρ st => (sSeq (sIf (tB (eOp (fEq false) (eV 5) (eC (.int 1)))) (sSeq (sSet 6 (eLst false (aCons (eB (fList false) (aCons (eV 1) aNil)) (aCons (eSl false (eV 1) oNo (oAt (eC (.int 1)))) (aCons (eOp (fAdd false) (eV 1) (eTup (aCons (eV 4) aNil))) (aCons (eOp (fAdd false) (eTup (aCons (eV 4) aNil)) (eSl false (eV 1) (oAt (eC (.int 1))) oNo)) (aCons (eOp (fAdd false) (eOp (fAdd false) (eSl false (eV 1) oNo (oAt (eC (.int 1)))) (eTup (aCons (eV 4) aNil))) (eSl false (eV 1) (oAt (eC (.int 2))) oNo)) aNil)))))))
  (sRet (eOp fIx (eV 6) (eCall F_law_draw [] (aCons (eV 0) (aCons (eC (.int 5)) aNil)))))) sNext)
  r_law_bent_3) ρ st
def t_law_bent : FS := fun ρ st => (sSeq (sSet 3 (eLst false (aCons (eC .non) (aCons (eC (.bl true)) (aCons (eC (.bl false)) (aCons (eC (.int 0)) (aCons (eC (.str "number")) (aCons (eTup aNil) (aCons (eLst false aNil) (aCons eDictZ (aCons (eTup (aCons (eC (.str "none")) (aCons (eLst false aNil) aNil))) (aCons (eTup (aCons (eC (.str "number")) (aCons (eC (.int 0)) (aCons (eTup aNil) aNil)))) (aCons (eTup (aCons (eC (.str "number")) (aCons (eC (.int 1)) (aCons (eTup (aCons (eC (.int 0)) aNil)) aNil)))) aNil)))))))))))))
  (sSeq (sSet 4 (eOp fIx (eV 3) (eCall F_law_draw [] (aCons (eV 0) (aCons (eC (.int 11)) aNil)))))
  (sSeq (sSet 5 (eCall F_law_draw [] (aCons (eV 0) (aCons (eC (.int 7)) aNil))))
  (sSeq (sIf (tB (eOp (fEq false) (eV 5) (eC (.int 0)))) (sRet (eV 4)) sNext)
  r_law_bent_4)))) ρ st
def F_law_bent : List Val → Store → R Val := fnF false 3 11 t_law_bent
-- BLOCK law_coins
def t_law_coins : FS := fun ρ st => (sRet (eB fTuple (aCons (eLc false (iRg1 (aCons (eV 2) aNil)) (gN 3) tYes (eCall F_law_draw [] (aCons (eV 0) (aCons (eV 1) aNil))) [3]) aNil))) ρ st
def F_law_coins : List Val → Store → R Val := fnF false 3 4 t_law_coins
-- BLOCK law_companies
def t_law_companies : FS := fun ρ st => (sRet (eLst false (aCons (eTup (aCons (eC (.int 5)) (aCons (eC (.int 3)) (aCons (eC (.int 1)) aNil)))) (aCons (eTup (aCons (eC (.int 5)) (aCons (eC (.int 4)) (aCons (eC (.int 1)) aNil)))) (aCons (eTup (aCons (eC (.int 7)) (aCons (eC (.int 3)) (aCons (eC (.int 1)) aNil)))) (aCons (eTup (aCons (eC (.int 7)) (aCons (eC (.int 5)) (aCons (eC (.int 2)) aNil)))) (aCons (eTup (aCons (eC (.int 7)) (aCons (eC (.int 6)) (aCons (eC (.int 2)) aNil)))) (aCons (eTup (aCons (eC (.int 11)) (aCons (eC (.int 7)) (aCons (eC (.int 3)) aNil)))) (aCons (eTup (aCons (eC (.int 13)) (aCons (eC (.int 5)) (aCons (eC (.int 2)) aNil)))) (aCons (eTup (aCons (eC (.int 31)) (aCons (eC (.int 7)) (aCons (eC (.int 1)) aNil)))) (aCons (eTup (aCons (eC (.int 7)) (aCons (eC (.int 6)) (aCons (eC (.int 1)) aNil)))) aNil))))))))))) ρ st
def F_law_companies : List Val → Store → R Val := fnF false 0 0 t_law_companies
-- BLOCK law_company
def t_law_company : FS := fun ρ st => (sRet (eOp fIx (eV 1) (eCall F_law_draw [] (aCons (eV 0) (aCons (eB fLen (aCons (eV 1) aNil)) aNil))))) ρ st
def F_law_company : List Val → Store → R Val := fnF false 2 2 t_law_company
-- BLOCK law_pen
def t_law_pen : FS := fun ρ st => (sRet (eLst true (aCons (eB (fList false) (aCons (eSl false (eV 0) oNo (oAt (eC (.int 63)))) aNil)) (aCons (eC (.int 0)) (aCons (eC (.int 0)) aNil))))) ρ st
def F_law_pen : List Val → Store → R Val := fnF false 1 1 t_law_pen
-- BLOCK law_piece
def r_law_piece_0 : FS := fun ρ st => (sRet (eOp (fMod) (eOp (fAdd false) (eOp (fMul false) (eV 4) (eV 2)) (eV 0)) (eV 3))) ρ st
def b_law_piece_0 : FS := sWipe [1, 5] (sSet 4 (eOp (fMod) (eOp (fAdd false) (eOp (fMul false) (eV 4) (eV 2)) (eV 5)) (eV 3)))
def t_law_piece : FS := fun ρ st => (sSeq (sSet 4 (eC (.int 0)))
  (sSeq (sFor [1, 5] (iSeq (eRev false (eV 1))) (gN 5) b_law_piece_0)
  r_law_piece_0)) ρ st
def F_law_piece : List Val → Store → R Val := fnF false 4 6 t_law_piece
-- BLOCK law_pieces
def t_law_pieces : FS := fun ρ st => (sRet (eB fTuple (aCons (eLc false (iRg1 (aCons (eOp fIx (eV 0) (eC (.int 1))) aNil)) (gN 3) tYes (eCall F_law_piece [] (aCons (eV 1) (aCons (eV 2) (aCons (eOp (fAdd false) (eV 3) (eC (.int 1))) (aCons (eOp fIx (eV 0) (eC (.int 0))) aNil))))) [3]) aNil))) ρ st
def F_law_pieces : List Val → Store → R Val := fnF false 3 4 t_law_pieces
-- BLOCK law_number
def t_law_number : FS := fun ρ st => (sRet (eAnd (eIsi .int (eV 0)) (eNot (eIsi .bool (eV 0))))) ρ st
def F_law_number : List Val → Store → R Val := fnF false 1 1 t_law_number
-- BLOCK law_same
def r_law_same_0 (Fr : List Val → Store → R Val) : FS := fun ρ st => (sRet (eAnd (eOp (fEq false) (eB fLen (aCons (eV 0) aNil)) (eB fLen (aCons (eV 1) aNil))) (eB fAll (aCons (eLc false (iZpB false (aCons (eV 0) (aCons (eV 1) aNil))) (gTup 2 (gCons (gN 3) (gCons (gN 4) gNil))) tYes (eCall Fr [] (aCons (eV 3) (aCons (eV 4) aNil))) [3, 4]) aNil)))) ρ st
def r_law_same_1 (Fr : List Val → Store → R Val) : FS := fun ρ st => (sSeq (sIf (tOr (tB (eOp (fEq true) (eIsi .tuple (eV 1)) (eIsi .tuple (eV 0)))) (tB (eOp (fEq true) (eIsi .list (eV 1)) (eIsi .list (eV 0))))) (sRet (eC (.bl false))) sNext)
  (r_law_same_0 Fr)) ρ st
def r_law_same_2 (Fr : List Val → Store → R Val) : FS := fun ρ st => (sRet (eB fAll (aCons (eLc false (iSeq (eV 1)) (gN 2) tYes (eCall Fr [] (aCons (eOp fIx (eV 0) (eV 2)) (aCons (eOp fIx (eV 1) (eV 2)) aNil))) [2]) aNil))) ρ st
def r_law_same_3 (Fr : List Val → Store → R Val) : FS := fun ρ st => (sSeq (sIf (tB (eIsi .dict (eV 1))) (sSeq (sIf (tOr (tNot (tB (eIsi .dict (eV 0)))) (tB (eOp (fEq true) (eB (fSorted false) (aCons (eV 0) aNil)) (eB (fSorted false) (aCons (eV 1) aNil))))) (sRet (eC (.bl false))) sNext)
  (r_law_same_2 Fr)) sNext)
  (r_law_same_1 Fr)) ρ st
def r_law_same_4 (Fr : List Val → Store → R Val) : FS := fun ρ st => (sSeq (sIf (tB (eIsi .str (eV 1))) (sRet (eAnd (eIsi .str (eV 0)) (eOp (fEq false) (eV 0) (eV 1)))) sNext)
  (r_law_same_3 Fr)) ρ st
def r_law_same_5 (Fr : List Val → Store → R Val) : FS := fun ρ st => (sSeq (sIf (tB (eIsi .int (eV 1))) (sRet (eAnd (eCall F_law_number [] (aCons (eV 0) aNil)) (eOp (fEq false) (eV 0) (eV 1)))) sNext)
  (r_law_same_4 Fr)) ρ st
def r_law_same_6 (Fr : List Val → Store → R Val) : FS := fun ρ st => (sSeq (sIf (tB (eIsi .bool (eV 1))) (sRet (eAnd (eIsi .bool (eV 0)) (eOp (fEq false) (eV 0) (eV 1)))) sNext)
  (r_law_same_5 Fr)) ρ st
def t_law_same (Fr : List Val → Store → R Val) : FS := fun ρ st => (sSeq (sIf (tB (eOp (fIsN false) (eV 1) (eC .non))) (sRet (eOp (fIsN false) (eV 0) (eC .non))) sNext)
  (r_law_same_6 Fr)) ρ st
def F_law_same : Nat → List Val → Store → R Val
  | 0 => fun _ _ => .bad
  | n + 1 => fnF false 2 5 (t_law_same (F_law_same n))
-- BLOCK is_number
def t_is_number : FS := fun ρ st => (sRet (eAnd (eIsi .int (eV 0)) (eNot (eIsi .bool (eV 0))))) ρ st
def F_is_number : List Val → Store → R Val := fnF false 1 1 t_is_number
-- BLOCK is_same
def r_is_same_0 (Fr : List Val → Store → R Val) : FS := fun ρ st => (sRet (eAnd (eOp (fEq false) (eB fLen (aCons (eV 0) aNil)) (eB fLen (aCons (eV 1) aNil))) (eB fAll (aCons (eLc false (iZpB true (aCons (eV 0) (aCons (eV 1) aNil))) (gTup 2 (gCons (gN 2) (gCons (gN 3) gNil))) tYes (eCall Fr [] (aCons (eV 2) (aCons (eV 3) aNil))) [2, 3]) aNil)))) ρ st
def r_is_same_1 (Fr : List Val → Store → R Val) : FS := fun ρ st => (sSeq (sIf (tOr (tB (eOp (fEq true) (eIsi .tuple (eV 0)) (eIsi .tuple (eV 1)))) (tB (eOp (fEq true) (eIsi .list (eV 0)) (eIsi .list (eV 1))))) (sRet (eC (.bl false))) sNext)
  (r_is_same_0 Fr)) ρ st
def r_is_same_2 (Fr : List Val → Store → R Val) : FS := fun ρ st => (sSeq (sIf (tB (eCall F_is_number [] (aCons (eV 1) aNil))) (sRet (eAnd (eCall F_is_number [] (aCons (eV 0) aNil)) (eOp (fEq false) (eV 0) (eV 1)))) sNext)
  (r_is_same_1 Fr)) ρ st
def t_is_same (Fr : List Val → Store → R Val) : FS := fun ρ st => (sSeq (sIf (tB (eIsi .str (eV 1))) (sRet (eAnd (eIsi .str (eV 0)) (eOp (fEq false) (eV 0) (eV 1)))) sNext)
  (r_is_same_2 Fr)) ρ st
def F_is_same : Nat → List Val → Store → R Val
  | 0 => fun _ _ => .bad
  | n + 1 => fnF false 2 4 (t_is_same (F_is_same n))
-- BLOCK turned
def r_turned_0 : FS := fun ρ st => (sRet (eOp fIx (eLc false (iRg2 (aCons (eC (.int 1)) (aCons (eV 1) aNil))) (gN 2) (tB (eOp (fEq false) (eOp (fMod) (eOp (fMul false) (eV 0) (eV 2)) (eV 1)) (eC (.int 1)))) (eV 2) [2]) (eC (.int 0)))) ρ st
def t_turned : FS := fun ρ st => (sSeq (sIf (tB (eOp (fEq false) (eV 0) (eC (.int 0)))) (sRaise (eMk1 "NoTurned" "prime" (aCons (eV 1) aNil))) sNext)
  r_turned_0) ρ st
def F_turned : List Val → Store → R Val := fnF false 2 3 t_turned
-- BLOCK with_nought
def r_with_nought_0 : FS := fun ρ st => (sRet (eV 3)) ρ st
def b_with_nought_0 : FS := sWipe [0, 4, 5] (sAsg (eOp (fMod) (eOp (fSub) (eOp fIx (eV 3) (eV 4)) (eOp (fMul false) (eV 5) (eV 1))) (eV 2)) (gSub (eV 3) (eV 4)))
def t_with_nought : FS := fun ρ st => (sSeq (sSet 3 (eOp (fAdd true) (eLst false (aCons (eC (.int 0)) aNil)) (eB (fList false) (aCons (eV 0) aNil))))
  (sSeq (sFor [0, 4, 5] (iEn (aCons (eV 0) aNil)) (gTup 2 (gCons (gN 4) (gCons (gN 5) gNil))) b_with_nought_0)
  r_with_nought_0)) ρ st
def F_with_nought : List Val → Store → R Val := fnF true 3 6 t_with_nought
-- BLOCK worth
def r_worth_0 : FS := fun ρ st => (sRet (eV 3)) ρ st
def b_worth_0 : FS := sWipe [0, 4] (sSet 3 (eOp (fMod) (eOp (fAdd false) (eOp (fMul false) (eV 3) (eV 1)) (eV 4)) (eV 2)))
def t_worth : FS := fun ρ st => (sSeq (sSet 3 (eC (.int 0)))
  (sSeq (sFor [0, 4] (iSeq (eRev false (eV 0))) (gN 4) b_worth_0)
  r_worth_0)) ρ st
def F_worth : List Val → Store → R Val := fnF false 3 5 t_worth
-- BLOCK through
def r_through_0 : FS := fun ρ st => (sRet (eB fTuple (aCons (eV 5) aNil))) ρ st
def b_through_0 : FS := sWipe [0, 2, 3, 4, 7, 8, 9] (sSeq (sSet 8 (eOp (fMod) (eOp (fSub) (eV 7) (eCall F_worth [] (aCons (eV 5) (aCons (eV 4) (aCons (eV 1) aNil))))) (eV 1)))
  (sSeq (sSet 9 (eOp (fMod) (eOp (fMul false) (eV 8) (eCall F_turned [] (aCons (eCall F_worth [] (aCons (eV 6) (aCons (eV 4) (aCons (eV 1) aNil)))) (aCons (eV 1) aNil)))) (eV 1)))
  (sSeq (sSet 5 (eLc false (iZpB true (aCons (eOp (fAdd false) (eV 5) (eLst false (aCons (eC (.int 0)) aNil))) (aCons (eV 6) aNil))) (gTup 2 (gCons (gN 10) (gCons (gN 11) gNil))) tYes (eOp (fMod) (eOp (fAdd false) (eV 10) (eOp (fMul false) (eV 9) (eV 11))) (eV 1)) [10, 11]))
  (sSet 6 (eCall F_with_nought [] (aCons (eV 6) (aCons (eV 4) (aCons (eV 1) aNil))))))))
def r_through_1 : FS := fun ρ st => (sSeq (sSet 5 (eLst false aNil))
  (sSeq (sSet 6 (eLst false (aCons (eC (.int 1)) aNil)))
  (sSeq (sFor [0, 2, 3, 4, 7, 8, 9] (iSeq (eV 0)) (gTup 2 (gCons (gN 4) (gCons (gN 7) gNil))) b_through_0)
  r_through_0))) ρ st
def b_through_1 : FS := sWipe [3, 4, 5, 6, 7, 8, 9] (sIf (tB (eOp (fIn false) (eV 4) (eSl false (eV 2) oNo (oAt (eV 3))))) (sRaise (eMk1 "NoCurve" "place" (aCons (eV 3) aNil))) sNext)
def t_through : FS := fun ρ st => (sSeq (sSet 2 (eLc false (iSeq (eV 0)) (gTup 2 (gCons (gN 4) (gCons (gN 7) gNil))) tYes (eV 4) [4, 7]))
  (sSeq (sFor [3, 4, 5, 6, 7, 8, 9] (iEn (aCons (eV 2) aNil)) (gTup 2 (gCons (gN 3) (gCons (gN 4) gNil))) b_through_1)
  r_through_1)) ρ st
def F_through : List Val → Store → R Val := fnF false 2 12 t_through
-- BLOCK curve_of
def t_curve_of : FS := fun ρ st => (sRet (eCall F_through [] (aCons (eB fTuple (aCons (eLc false (iSeq (eV 1)) (gN 3) tYes (eTup (aCons (eOp (fAdd false) (eV 3) (eC (.int 1))) (aCons (eOp fIx (eV 2) (eV 3)) aNil))) [3]) aNil)) (aCons (eOp fIx (eV 0) (eC (.int 0))) aNil)))) ρ st
def F_curve_of : List Val → Store → R Val := fnF false 3 4 t_curve_of
-- BLOCK lots_of
def r_lots_of_0 (Fr : List Val → Store → R Val) : FS := fun ρ st => (sRet (eV 3)) ρ st
def b_lots_of_0 (Fr : List Val → Store → R Val) : FS := sWipe [2, 4] (sDrop (eExt (eV 3) (eLc false (iSeq (eCall Fr [] (aCons (eV 0) (aCons (eOp (fSub) (eV 1) (eC (.int 1))) (aCons (eOp (fAdd false) (eV 4) (eC (.int 1))) aNil))))) (gN 5) tYes (eOp (fAdd false) (eTup (aCons (eV 4) aNil)) (eV 5)) [5])))
def r_lots_of_1 (Fr : List Val → Store → R Val) : FS := fun ρ st => (sSeq (sSet 3 (eLst true aNil))
  (sSeq (sFor [2, 4] (iRg2 (aCons (eV 2) (aCons (eOp (fAdd false) (eOp (fSub) (eV 0) (eV 1)) (eC (.int 1))) aNil))) (gN 4) (b_lots_of_0 Fr))
  (r_lots_of_0 Fr))) ρ st
def t_lots_of (Fr : List Val → Store → R Val) : FS := fun ρ st => (sSeq (sIf (tB (eOp (fEq false) (eV 1) (eC (.int 0)))) (sRet (eLst false (aCons (eTup aNil) aNil))) sNext)
  (r_lots_of_1 Fr)) ρ st
def F_lots_of : Nat → List Val → Store → R Val
  | 0 => fun _ _ => .bad
  | n + 1 => fnF true 3 6 (t_lots_of (F_lots_of n))
-- BLOCK off_hands
def t_off_hands : FS := fun ρ st => (sRet (eLc false (iEn (aCons (eV 2) aNil)) (gTup 2 (gCons (gN 3) (gCons (gN 4) gNil))) (tB (eOp (fEq true) (eCall F_worth [] (aCons (eV 1) (aCons (eOp (fAdd false) (eV 3) (eC (.int 1))) (aCons (eOp fIx (eV 0) (eC (.int 0))) aNil)))) (eV 4))) (eV 3) [3, 4])) ρ st
def F_off_hands : List Val → Store → R Val := fnF false 3 5 t_off_hands
-- BLOCK mended
def r_mended_0 : FS := fun ρ st => (sRet (eTup (aCons (eC (.str "none")) (aCons (eV 6) aNil)))) ρ st
def r_mended_1 : FS := fun ρ st => (sDrop (eM fApp (eV 6) (aCons (eTup (aCons (eV 7) (aCons (eSl false (eV 9) oNo (oAt (eOp (fAdd false) (eV 5) (eC (.int 1))))) aNil))) aNil))) ρ st
def b_mended_0 : FS := sWipe [2, 3, 4, 7, 8, 9] (sSeq (sSet 8 (eCall F_curve_of [] (aCons (eV 0) (aCons (eV 7) (aCons (eV 1) aNil)))))
  (sSeq (sSet 9 (eB fTuple (aCons (eCall F_off_hands [] (aCons (eV 0) (aCons (eV 8) (aCons (eV 1) aNil)))) aNil)))
  (sSeq (sIf (tB (eOp fLe (eB fLen (aCons (eV 9) aNil)) (eV 5))) (sRet (eTup (aCons (eC (.str "number")) (aCons (eOp fIx (eV 8) (eC (.int 0))) (aCons (eV 9) aNil))))) sNext)
  r_mended_1)))
def t_mended : FS := fun ρ st => (sSeq (sAsg (eV 0) (gTup 3 (gCons (gN 2) (gCons (gN 3) (gCons (gN 4) gNil)))))
  (sSeq (sSet 5 (eOp (fDiv) (eOp (fSub) (eOp (fSub) (eV 3) (eV 4)) (eC (.int 1))) (eC (.int 2))))
  (sSeq (sSet 6 (eLst true aNil))
  (sSeq (sFor [2, 3, 4, 7, 8, 9] (iSeq (eCall (F_lots_of 6) [.int 0] (aCons (eOp (fAdd false) (eOp (fAdd false) (eV 4) (eV 5)) (eC (.int 1))) (aCons (eOp (fAdd false) (eV 4) (eC (.int 1))) aNil)))) (gN 7) b_mended_0)
  r_mended_0)))) ρ st
def F_mended : List Val → Store → R Val := fnF true 2 10 t_mended
-- BLOCK is_mended
def t_is_mended : FS := fun ρ st => (sRet (eCall (F_is_same 6) [] (aCons (eV 0) (aCons (eCall F_mended [] (aCons (eV 1) (aCons (eV 2) aNil))) aNil)))) ρ st
def F_is_mended : List Val → Store → R Val := fnF false 3 3 t_is_mended
-- BLOCK law
def r_law_0 : FS := fun ρ st => (sRet (eC (.bl true))) ρ st
def r_law_1 : FS := fun ρ st => (sIf (tB (eOp (fIsB true) (eCallK F_is_mended [2, 1, 0] (aCons (eV 7) (aCons (eV 3) (aCons (eV 11) aNil)))) (eC (.bl true)))) (sRet (eC (.bl false))) sNext) ρ st
def b_law_0 : FS := sWipe [0, 2, 4, 5, 6, 8, 9, 10, 12, 13, 14] (sSeq (sSet 13 (eB fReprU (aCons (eV 12) aNil)))
  (sIf (tOr (tNot (tB (eCall (F_law_same 6) [] (aCons (eCall F_is_mended [] (aCons (eV 12) (aCons (eV 3) (aCons (eV 7) aNil)))) (aCons (eCall (F_law_same 6) [] (aCons (eV 12) (aCons (eV 11) aNil))) aNil))))) (tB (eOp (fEq true) (eB fReprU (aCons (eV 12) aNil)) (eV 13)))) (sRet (eC (.bl false))) sNext))
def r_law_2 : FS := fun ρ st => (sSeq (sSet 11 (eCall F_mended [] (aCons (eV 3) (aCons (eV 7) aNil))))
  (sSeq (sSet 10 (eCall F_mended [] (aCons (eV 3) (aCons (eCall F_law_coins [] (aCons (eV 1) (aCons (eV 4) (aCons (eV 5) aNil)))) aNil))))
  (sSeq (sFor [0, 2, 4, 5, 6, 8, 9, 10, 12, 13, 14] (iSeq (eOp (fAdd false) (eLst false (aCons (eV 11) (aCons (eV 10) aNil))) (eLc false (iRg1 (aCons (eC (.int 3)) aNil)) (gN 14) tYes (eCall F_law_bent [] (aCons (eV 1) (aCons (eV 11) (aCons (eV 4) aNil)))) [14]))) (gN 12) b_law_0)
  r_law_1))) ρ st
def b_law_1 : FS := sWipe [0, 2, 6, 8, 9, 10, 11, 12, 13, 14] (sSeq (sSet 9 (eCall F_law_draw [] (aCons (eV 1) (aCons (eV 5) aNil))))
  (sSeq (sSet 10 (eOp (fMod) (eOp (fAdd false) (eOp (fAdd false) (eOp fIx (eV 7) (eV 9)) (eC (.int 1))) (eCall F_law_draw [] (aCons (eV 1) (aCons (eOp (fSub) (eV 4) (eC (.int 1))) aNil)))) (eV 4)))
  (sSet 7 (eOp (fAdd false) (eOp (fAdd false) (eSl false (eV 7) oNo (oAt (eV 9))) (eTup (aCons (eV 10) aNil))) (eSl false (eV 7) (oAt (eOp (fAdd false) (eV 9) (eC (.int 1)))) oNo)))))
def b_law_2 : FS := sWipe [0, 2, 3, 4, 5, 6, 7, 8, 9, 10, 11, 12, 13, 14] (sSeq (sSet 3 (eCall F_law_company [] (aCons (eV 1) (aCons (eCall F_law_companies [] aNil) aNil))))
  (sSeq (sAsg (eV 3) (gTup 3 (gCons (gN 4) (gCons (gN 5) (gCons (gN 6) gNil)))))
  (sSeq (sSet 7 (eCall F_law_pieces [] (aCons (eV 3) (aCons (eCall F_law_draw [] (aCons (eV 1) (aCons (eV 4) aNil))) (aCons (eCall F_law_coins [] (aCons (eV 1) (aCons (eV 4) (aCons (eV 6) aNil)))) aNil)))))
  (sSeq (sFor [0, 2, 6, 8, 9, 10, 11, 12, 13, 14] (iRg1 (aCons (eOp fIx (eLst false (aCons (eC (.int 0)) (aCons (eC (.int 1)) (aCons (eC (.int 2)) (aCons (eC (.int 3)) aNil))))) (eCall F_law_draw [] (aCons (eV 1) (aCons (eC (.int 4)) aNil)))) aNil)) (gN 8) b_law_1)
  r_law_2))))
def t_law : FS := fun ρ st => (sSeq (sSet 1 (eCall F_law_pen [] (aCons (eV 0) aNil)))
  (sSeq (sFor [0, 2, 3, 4, 5, 6, 7, 8, 9, 10, 11, 12, 13, 14] (iRg1 (aCons (eC (.int 2)) aNil)) (gN 2) b_law_2)
  r_law_0)) ρ st
def F_law : List Val → Store → R Val := fnF true 1 15 t_law
local macro_rules | `(tactic| walk_at "dz") => `(tactic| first | omega | with_reducible assumption | (simp only [List.length_map, List.length_cons, List.length_append, List.length_nil, List.length_replicate, List.length_range, List.length_reverse, List.length_set, List.length_take, List.length_drop, rngs_len, enL_len, Int.toNat_natCast] <;> omega))
local macro_rules | `(tactic| walk_at "ev") => `(tactic| simp (disch := walk_at "dz") only [seval, Int.reduceToNat, Nat.reduceAdd, Nat.reduceSub, Nat.reduceMul, Nat.reduceLT, Nat.reduceLeDiff, Nat.reduceEqDiff, Nat.reduceBEq, Nat.reduceMod, Nat.reduceDiv, Int.reduceAdd, Int.reduceSub, Int.reduceMul, Int.reduceNeg, Int.reduceLT, Int.reduceLE, Int.reduceEq, Int.reduceBEq, Int.reduceBNe, Int.reduceMod, Int.reduceDiv, Int.cast_ofNat_Int, r_law_fresh_0, r_law_fresh_1, r_law_fresh_2, t_law_fresh, r_law_draw_0, t_law_draw, r_law_bent_row_0, r_law_bent_row_1, r_law_bent_row_2, r_law_bent_row_3, r_law_bent_row_4, t_law_bent_row, r_law_bent_cover_0, r_law_bent_cover_1, r_law_bent_cover_2, r_law_bent_cover_3, t_law_bent_cover, r_law_bent_0, r_law_bent_1, r_law_bent_2, r_law_bent_3, r_law_bent_4, t_law_bent, t_law_coins, t_law_companies, t_law_company, t_law_pen, r_law_piece_0, t_law_piece, t_law_pieces, t_law_number, r_law_same_0, r_law_same_1, r_law_same_2, r_law_same_3, r_law_same_4, r_law_same_5, r_law_same_6, t_law_same, t_is_number, r_is_same_0, r_is_same_1, r_is_same_2, t_is_same, r_turned_0, t_turned, r_with_nought_0, t_with_nought, r_worth_0, t_worth, r_through_0, r_through_1, t_through, t_curve_of, r_lots_of_0, r_lots_of_1, t_lots_of, t_off_hands, r_mended_0, r_mended_1, t_mended, t_is_mended, r_law_0, r_law_1, r_law_2, t_law])
local macro_rules | `(tactic| walk_at "ev*") => `(tactic| simp (disch := walk_at "dz") only [seval, Int.reduceToNat, Nat.reduceAdd, Nat.reduceSub, Nat.reduceMul, Nat.reduceLT, Nat.reduceLeDiff, Nat.reduceEqDiff, Nat.reduceBEq, Nat.reduceMod, Nat.reduceDiv, Int.reduceAdd, Int.reduceSub, Int.reduceMul, Int.reduceNeg, Int.reduceLT, Int.reduceLE, Int.reduceEq, Int.reduceBEq, Int.reduceBNe, Int.reduceMod, Int.reduceDiv, Int.cast_ofNat_Int, r_law_fresh_0, r_law_fresh_1, r_law_fresh_2, t_law_fresh, r_law_draw_0, t_law_draw, r_law_bent_row_0, r_law_bent_row_1, r_law_bent_row_2, r_law_bent_row_3, r_law_bent_row_4, t_law_bent_row, r_law_bent_cover_0, r_law_bent_cover_1, r_law_bent_cover_2, r_law_bent_cover_3, t_law_bent_cover, r_law_bent_0, r_law_bent_1, r_law_bent_2, r_law_bent_3, r_law_bent_4, t_law_bent, t_law_coins, t_law_companies, t_law_company, t_law_pen, r_law_piece_0, t_law_piece, t_law_pieces, t_law_number, r_law_same_0, r_law_same_1, r_law_same_2, r_law_same_3, r_law_same_4, r_law_same_5, r_law_same_6, t_law_same, t_is_number, r_is_same_0, r_is_same_1, r_is_same_2, t_is_same, r_turned_0, t_turned, r_with_nought_0, t_with_nought, r_worth_0, t_worth, r_through_0, r_through_1, t_through, t_curve_of, r_lots_of_0, r_lots_of_1, t_lots_of, t_off_hands, r_mended_0, r_mended_1, t_mended, t_is_mended, r_law_0, r_law_1, r_law_2, t_law, *])
local macro_rules | `(tactic| walk_at "evd") => `(tactic| simp (disch := walk_at "dz") only [seval, Int.reduceToNat, Nat.reduceAdd, Nat.reduceSub, Nat.reduceMul, Nat.reduceLT, Nat.reduceLeDiff, Nat.reduceEqDiff, Nat.reduceBEq, Nat.reduceMod, Nat.reduceDiv, Int.reduceAdd, Int.reduceSub, Int.reduceMul, Int.reduceNeg, Int.reduceLT, Int.reduceLE, Int.reduceEq, Int.reduceBEq, Int.reduceBNe, Int.reduceMod, Int.reduceDiv, Int.cast_ofNat_Int, r_law_fresh_0, r_law_fresh_1, r_law_fresh_2, t_law_fresh, r_law_draw_0, t_law_draw, r_law_bent_row_0, r_law_bent_row_1, r_law_bent_row_2, r_law_bent_row_3, r_law_bent_row_4, t_law_bent_row, r_law_bent_cover_0, r_law_bent_cover_1, r_law_bent_cover_2, r_law_bent_cover_3, t_law_bent_cover, r_law_bent_0, r_law_bent_1, r_law_bent_2, r_law_bent_3, r_law_bent_4, t_law_bent, t_law_coins, t_law_companies, t_law_company, t_law_pen, r_law_piece_0, t_law_piece, t_law_pieces, t_law_number, r_law_same_0, r_law_same_1, r_law_same_2, r_law_same_3, r_law_same_4, r_law_same_5, r_law_same_6, t_law_same, t_is_number, r_is_same_0, r_is_same_1, r_is_same_2, t_is_same, r_turned_0, t_turned, r_with_nought_0, t_with_nought, r_worth_0, t_worth, r_through_0, r_through_1, t_through, t_curve_of, r_lots_of_0, r_lots_of_1, t_lots_of, t_off_hands, r_mended_0, r_mended_1, t_mended, t_is_mended, r_law_0, r_law_1, r_law_2, t_law, dT, dF])
/-! ### curves -/
theorem nine_sub {q : Int} (h : q ∈ nine) : 5 ≤ q ∧ q ≤ 31 := nine_le h
/-- a list or tuple that stands by itself -/
def SqV (v : Val) (xs : List Val) : Prop := v = .tup xs ∨ v = .ro xs
theorem worth_ok {v : Val} {c : List Int} {x q : Int} {st : Store} (hv : SqV v (iL c)) (h0 : 0 < q) (h2 : -10000 ≤ x ∧ x < 10000) (hc : c.length < 10000) : F_worth [v, .int x, .int q] st = .ok (.int (pev c x % q)) st := by
  have key : ∀ z, fl (fun _ => some (c.reverse.map Val.int)) (gN 4) b_worth_0 bigN 0 [none, some (.int x), some (.int q), some (.int 0), none] st = .nx [none, some (.int x), some (.int q), some (.int (pev c x % q)), z] st ∨ z ≠ none := by
    intro z
    rw [fl_fold c.reverse Val.int (fun a n => (a * x + n) % q) (fun a => [none, some (.int x), some (.int q), some (.int a), none]) 0]
    · rw [List.foldl_reverse, show (0 : Int) = 0 % q by simp, horner_mod]
      cases z with
      | none => exact .inl rfl
      | some _ => exact .inr (by simp)
    · walk_at "dz"
    · intro a s _
      unfold b_worth_0
      refine ⟨_, _, rfl, ?_⟩
      walk_at "ev"
  have k := (key none).resolve_right (by simp)
  rcases hv with rfl | rfl <;> (unfold F_worth; walk_at "ev"; rw [k]; walk_at "ev")
theorem turned_zero {q : Int} {st : Store} : F_turned [.int 0, .int q] st = .exc ("NoTurned", some ("prime", .int q)) st := by
  unfold F_turned
  walk_at "ev"
theorem turned_ok {a q : Int} {st : Store} (hq : q ∈ nine) (h0 : 0 < a) (h1 : a < q) : ∃ b, F_turned [.int a, .int q] st = .ok (.int b) st ∧ 0 < b ∧ b < q ∧ a * b % q = 1 := by
  have h5 := nine_le hq
  obtain ⟨b, b0, b1, hb⟩ := nine_inv hq h0 h1
  unfold F_turned
  walk_at "ev"
  rw [decide_eq_false (show ¬ a = 0 by omega)]
  walk_at "ev"
  rw [rngs_map, lcl_fm (List.range (q - 1).toNat) (fun i => Val.int (1 + (i : Nat))) (fun i => if a * (1 + (i : Nat)) % q = 1 then some (.int (1 + (i : Nat))) else none) rfl (by walk_at "dz")]
  · have hm : (b - 1).toNat ∈ (List.range (q - 1).toNat).filter (fun i => decide (a * (1 + (i : Nat)) % q = 1)) := by
      refine List.mem_filter.mpr ⟨List.mem_range.mpr (by omega), decide_eq_true ?_⟩
      rw [show (1 + ((b - 1).toNat : Int)) = b by omega]
      exact hb
    have e : (List.range (q - 1).toNat).filterMap (fun i => if a * (1 + (i : Nat)) % q = 1 then some (Val.int (1 + (i : Nat))) else none) = ((List.range (q - 1).toNat).filter (fun i => decide (a * (1 + (i : Nat)) % q = 1))).map fun i => Val.int (1 + (i : Nat)) := filterMap_if _ _ _
    rw [e]
    cases hl : (List.range (q - 1).toNat).filter (fun i => decide (a * (1 + (i : Nat)) % q = 1)) with
    | nil => rw [hl] at hm; cases hm
    | cons i r =>
      have hi : i ∈ (List.range (q - 1).toNat).filter (fun i => decide (a * (1 + (i : Nat)) % q = 1)) := by rw [hl]; simp
      obtain ⟨h3, h4⟩ := List.mem_filter.mp hi
      have h3 := List.mem_range.mp h3
      have h4 := of_decide_eq_true h4
      refine ⟨1 + (i : Nat), ?_, by omega, by omega, h4⟩
      rw [List.map_cons]
      walk_at "ev"
  · intro i hi
    have := List.mem_range.mp hi
    walk_at "ev"
    by_cases e : a * (1 + (i : Nat)) % q = 1
    · rw [decide_eq_true e, if_pos e]
      walk_at "ev"
    · rw [decide_eq_false e, if_neg e]
      walk_at "ev"

theorem enL_ints (l : List Int) : enL (iL l) = (l.zipIdx).map fun p => Val.tup [.int (p.2 : Nat), .int p.1] := by
  unfold enL
  apply List.ext_getElem?
  intro i
  simp only [List.getElem?_mapIdx, List.getElem?_map, List.getElem?_zipIdx]
  cases l[i]? with
  | none => rfl
  | some x => simp
theorem zipIdx_mid {c : List Int} {d r : List (Int × Nat)} {n : Int} {i : Nat} (h : c.zipIdx = d ++ (n, i) :: r) : i = d.length ∧ c[d.length]? = some n := by
  have e : c.zipIdx[d.length]? = some (n, i) := by rw [h, List.getElem?_append_right (Nat.le_refl _), Nat.sub_self]; rfl
  rw [List.getElem?_zipIdx] at e
  cases h2 : c[d.length]? with
  | none => rw [h2] at e; cases e
  | some m =>
    rw [h2] at e
    simp at e
    exact ⟨e.2.symm, by rw [e.1]⟩
theorem with_nought_ok {v : Val} {c : List Int} {x q : Int} {st : Store} (hv : SqV v (iL c)) (h0 : 0 < q) (hx : -10000 ≤ x ∧ x < 10000) (hc : c.length < 9000) : F_with_nought [v, .int x, .int q] st = .ok (.ro (iL (wn q x 0 c))) st := by
  have key : fl (fun _ => some (enL (iL c))) (gTup 2 (gCons (gN 4) (gCons (gN 5) gNil))) b_with_nought_0 bigN 0 [none, some (.int x), some (.int q), some (.ref st.length), none, none] (st ++ [.lst (iL (0 :: c))])
      = .nx [none, some (.int x), some (.int q), some (.ref st.length), none, none] (st ++ [.lst (iL (wn q x 0 c))]) := by
    rw [enL_ints]
    obtain ⟨e1, e2⟩ := fl_foldP (g := gTup 2 (gCons (gN 4) (gCons (gN 5) gNil))) (b := b_with_nought_0) (cur := fun _ => some (c.zipIdx.map fun p => Val.tup [.int (p.2 : Nat), .int p.1])) c.zipIdx (fun p => Val.tup [.int (p.2 : Nat), .int p.1]) (fun s p => s.set p.2 ((s.getD p.2 0 - p.1 * x) % q)) (fun d s => s = wnJ q x c d.length)
      (fun _ => [none, some (.int x), some (.int q), some (.ref st.length), none, none]) (fun s => st ++ [.lst (iL s)]) (0 :: c) (by rw [List.length_zipIdx]; omega) rfl (fun _ => rfl) (by
      rintro d ⟨n, i⟩ r s hl rfl
      obtain ⟨rfl, hn⟩ := zipIdx_mid hl
      have hi := (List.getElem?_eq_some_iff.mp hn).1
      obtain ⟨u, hu, hw⟩ := wnJ_at (q := q) (a := x) hi
      have hlen := wnJ_len (q := q) (a := x) (Nat.le_of_lt hi)
      unfold b_with_nought_0
      refine ⟨_, _, rfl, .inl ?_, ?_⟩
      · walk_at "ev"
      · rw [List.length_append, List.getD_eq_getElem?_getD, hw]
        exact wnJ_next hu hn)
    rw [e1, e2, List.length_zipIdx]
    unfold wnJ wn
    rw [List.take_of_length_le (by simp)]
  rcases hv with rfl | rfl <;> (unfold F_with_nought; walk_at "ev"; rw [show Val.int 0 :: iL c = iL (0 :: c) from rfl, key]; walk_at "ev"; rw [retV_lst belows_ints])
theorem zip_out {g : Int → Int → Int} : ∀ {a b : List Int}, (a.zip b).map (fun p : Int × Int => Val.int (g p.1 p.2)) = iL (List.zipWith g a b)
  | [], _ => rfl
  | _ :: _, [] => rfl
  | x :: a, y :: b => by
    rw [List.zip_cons_cons, List.map_cons, zip_out, List.zipWith_cons_cons]
    rfl
/-- a point --/
def ptV (p : Int × Int) : Val := .tup [.int p.1, .int p.2]
theorem map_fst {ps : List (Int × Int)} : (ps.map fun p => Val.int p.1) = iL (ps.map (·.1)) := by simp
theorem through_places {ps : List (Int × Int)} {st : Store} {a b : Option Val} (hl : ps.length ≤ 10000) : lcl (fun _ => some (ps.map ptV)) (gTup 2 (gCons (gN 4) (gCons (gN 7) gNil))) tYes (eV 4) [a, b, none, none, none, none, none, none, none, none, none, none] bigN 0 [] st = some (iL (ps.map (·.1)), st) := by
  rw [lcl_mp ps ptV (fun p => .int p.1) rfl hl, map_fst]
  intro p _
  unfold ptV
  walk_at "ev"
theorem through_ok {ps : List (Int × Int)} {q : Int} {st : Store} (hq : q ∈ nine) (hp : PlacesL q (ps.map (·.1))) (hn : ∀ p ∈ ps, -(2 ^ 60) < p.2 ∧ p.2 < 2 ^ 60) (hl : ps.length ≤ 100) : ∃ cs, F_through [.tup (ps.map ptV), .int q] st = .ok (.tup (iL cs)) st ∧ Thru q ps cs := by
  have hq5 := nine_le hq
  unfold F_through
  walk_at "ev"
  rw [through_places (by omega)]
  walk_at "ev"
  obtain ⟨ns, hns⟩ : ∃ ns, ns = ps.map (·.1) := ⟨_, rfl⟩
  rw [← hns] at hp ⊢
  have hnl : ns.length = ps.length := by rw [hns, List.length_map]
  rw [enL_ints, fl_fold ns.zipIdx (fun p => Val.tup [.int (p.2 : Nat), .int p.1]) (fun s _ => s) (fun _ => [some (.tup (ps.map ptV)), some (.int q), some (.ro (iL ns)), none, none, none, none, none, none, none, none, none]) ()]
  rotate_left
  · rw [List.length_zipIdx]; omega
  · rintro ⟨n, i⟩ _ hm
    obtain ⟨k, hk⟩ := List.mem_iff_getElem?.mp hm
    rw [List.getElem?_zipIdx] at hk
    cases e : ns[k]? with
    | none => rw [e] at hk; cases hk
    | some m =>
      rw [e] at hk
      simp at hk
      obtain ⟨rfl, rfl⟩ := hk
      unfold b_through_1
      refine ⟨_, _, rfl, ?_⟩
      walk_at "ev"
      rw [decide_eq_false (fun z => ?_)]
      · walk_at "ev"
      · obtain ⟨j, hj, ej⟩ := List.mem_take_iff_getElem.mp z
        have := nodup_ne hp.2 (i := j) (j := k) (x := m) (by rw [← ej]; exact List.getElem?_eq_getElem (by omega)) e
        omega
  walk_at "ev"
  obtain ⟨ρ', st', e, rfl, fs, ks, rfl, ht, kl, klow, kg⟩ := fl_nx (g := gTup 2 (gCons (gN 4) (gCons (gN 7) gNil))) (b := b_through_0) (cur := fun _ => some (ps.map ptV)) (ρ := [none, some (.int q), none, none, none, some (.ro (iL [])), some (.ro (iL [1])), none, none, none, none, none]) (st := st) ps ptV
    (fun d ρ s => s = st ∧ ∃ fs ks, ρ = [none, some (.int q), none, none, none, some (.ro (iL fs)), some (.ro (iL ks)), none, none, none, none, none] ∧ Thru q d fs ∧ ks.length = d.length + 1 ∧ (∀ c ∈ ks, 0 ≤ c ∧ c < q) ∧ ∀ x, Cg q (pev ks x) (gapP x (d.map (·.1)))) (by omega)
    ⟨rfl, [], [1], rfl, ⟨rfl, (fun _ z => by cases z), fun _ z => by cases z⟩, rfl, (fun c hc => by rw [List.mem_singleton.mp hc]; omega), fun x => by
      show Cg q (0 * x + 1) 1
      rw [Int.zero_mul]
      exact Cg.refl _ _⟩ (fun _ _ _ _ => rfl) (by
    rintro d p r ρ s hd ⟨rfl, fs, ks, rfl, ht, kl, klow, kg⟩
    have hpj : ps[d.length]? = some p := by rw [hd, List.getElem?_append_right (Nat.le_refl _), Nat.sub_self]; rfl
    have hnj : ns[d.length]? = some p.1 := by rw [hns]; exact fst_get hpj
    have hdl : d.length < ps.length := (List.getElem?_eq_some_iff.mp hpj).1
    have hp1 := hp.1 p.1 (List.mem_of_getElem? hnj)
    have hp2 := hn p (List.mem_of_getElem? hpj)
    have hfl : fs.length = d.length := ht.num
    have etk : ns.take d.length = d.map (·.1) := by rw [hns, ← List.map_take, hd, List.take_append_of_le_length (Nat.le_refl _), List.take_length]
    have w1 : F_worth [.ro (iL fs), .int p.1, .int q] s = .ok (.int (pev fs p.1 % q)) s := worth_ok (.inr rfl) (by omega) (by omega) (by omega)
    have w2 : F_worth [.ro (iL ks), .int p.1, .int q] s = .ok (.int (pev ks p.1 % q)) s := worth_ok (.inr rfl) (by omega) (by omega) (by omega)
    have hkb : 0 ≤ pev ks p.1 % q ∧ pev ks p.1 % q < q := ⟨Int.emod_nonneg _ (by omega), Int.emod_lt_of_pos _ (by omega)⟩
    have hk0 : ¬ Cg q (pev ks p.1 % q) 0 := fun z => gap_last hq hp hnj (by rw [etk]; exact (kg p.1).symm.trans ((Cg.mod q _).symm.trans z))
    have hk1 : pev ks p.1 % q ≠ 0 := fun z => hk0 (by rw [z]; exact Cg.refl _ _)
    obtain ⟨b, w3, b0, b1, be⟩ := turned_ok (st := s) hq (show 0 < pev ks p.1 % q by omega) hkb.2
    have w4 : F_with_nought [.ro (iL ks), .int p.1, .int q] s = .ok (.ro (iL (wn q p.1 0 ks))) s := with_nought_ok (.inr rfl) (by omega) (by omega) (by omega)
    obtain ⟨g, hg⟩ : ∃ g, g = (p.2 - pev fs p.1 % q) % q := ⟨_, rfl⟩
    have hgb : 0 ≤ g ∧ g < q := by rw [hg]; exact ⟨Int.emod_nonneg _ (by omega), Int.emod_lt_of_pos _ (by omega)⟩
    obtain ⟨t, htt⟩ : ∃ t, t = g * b % q := ⟨_, rfl⟩
    have htb : 0 ≤ t ∧ t < q := by rw [htt]; exact ⟨Int.emod_nonneg _ (by omega), Int.emod_lt_of_pos _ (by omega)⟩
    unfold b_through_0
    refine ⟨_, _, rfl, ?_⟩
    simp (disch := walk_at "dz") only [seval, Int.reduceToNat, Nat.reduceAdd, Nat.reduceSub, Nat.reduceMul, Nat.reduceLT, Nat.reduceLeDiff, Nat.reduceEqDiff, Nat.reduceBEq, Nat.reduceMod, Nat.reduceDiv, Int.reduceAdd, Int.reduceSub, Int.reduceMul, Int.reduceNeg, Int.reduceLT, Int.reduceLE, Int.reduceEq, Int.reduceBEq, Int.reduceBNe, Int.reduceMod, Int.reduceDiv, Int.cast_ofNat_Int, w1, w2, w3]
    rw [← hg, ← htt, show iL fs ++ [Val.int 0] = iL (fs ++ [0]) by simp, zip_ints, lcl_mp ((fs ++ [0]).zip ks) (fun p : Int × Int => Val.tup [.int p.1, .int p.2]) (fun p : Int × Int => .int ((p.1 + t * p.2) % q)) rfl (by rw [List.length_zip]; walk_at "dz")]
    · have ea : ((fs ++ [0]).zip ks).map (fun p : Int × Int => Val.int ((p.1 + t * p.2) % q)) = iL (addT q t fs ks) := by
        exact zip_out (g := fun u v => (u + t * v) % q)
      rw [ea]
      simp (disch := walk_at "dz") only [seval, Int.reduceToNat, Nat.reduceAdd, Nat.reduceSub, Nat.reduceMul, Nat.reduceLT, Nat.reduceLeDiff, Nat.reduceEqDiff, Nat.reduceBEq, Nat.reduceMod, Nat.reduceDiv, Int.reduceAdd, Int.reduceSub, Int.reduceMul, Int.reduceNeg, Int.reduceLT, Int.reduceLE, Int.reduceEq, Int.reduceBEq, Int.reduceBNe, Int.reduceMod, Int.reduceDiv, Int.cast_ofNat_Int, w4]
      refine ⟨trivial, addT q t fs ks, wn q p.1 0 ks, rfl, ?_, by rw [wn_len, kl], wn_low (by omega) 0 ks ⟨Int.le_refl 0, by omega⟩ klow, fun x => ?_⟩
      · refine ⟨by rw [addT_len (by omega), hfl, List.length_append]; rfl, addT_low (by omega), fun r hr => ?_⟩
        have hv := addT_pev (q := q) (t := t) (x := r.1) (fs := fs) (ks := ks) (by omega)
        rcases List.mem_append.mp hr with hr | hr
        · have h0 : Cg q (pev ks r.1) 0 := (kg r.1).trans (gap_has (List.mem_map_of_mem hr))
          have h1 := (ht.has r hr).add ((Cg.refl q t).mul h0)
          rw [Int.mul_zero, Int.add_zero] at h1
          exact hv.trans h1
        · rw [List.mem_singleton.mp hr] at hv ⊢
          have h1 : Cg q (pev ks p.1 * b) 1 := ((Cg.mod q (pev ks p.1)).symm.mul (Cg.refl q b)).trans (Cg.iff.mpr (be.trans (Int.emod_eq_of_lt (by decide) (by omega)).symm))
          have h2 : Cg q (t * pev ks p.1) (g * b * pev ks p.1) := by rw [htt]; exact (Cg.mod q (g * b)).mul (Cg.refl q _)
          have e3 : g * b * pev ks p.1 = g * (pev ks p.1 * b) := by grind
          rw [e3] at h2
          have h3 : Cg q g (p.2 - pev fs p.1) := by rw [hg]; exact (Cg.mod q _).trans ((Cg.refl q _).sub (Cg.mod q _))
          have h4 := h2.trans (h3.mul h1)
          rw [Int.mul_one] at h4
          have h5 := (Cg.refl q (pev fs p.1)).add h4
          have e6 : pev fs p.1 + (p.2 - pev fs p.1) = p.2 := by omega
          rw [e6] at h5
          exact hv.trans h5
      · have hw := wn_pev (q := q) (a := p.1) (x := x) 0 ks
        have e1 : pev (0 :: ks) x - p.1 * pev ks x = pev ks x * (x - p.1) := by
          rw [pev_cons]
          grind
        rw [e1] at hw
        rw [List.map_append, show [p].map (·.1) = [p.1] from rfl, gap_app]
        exact hw.trans ((kg x).mul (Cg.refl q _))
    · rintro ⟨u, v⟩ _
      refine ?_
      walk_at "ev")
  rw [show iL [] = ([] : List Val) from rfl, show iL [1] = [Val.int 1] from rfl] at e
  rw [e]
  walk_at "ev"
  exact ⟨fs, rfl, ht⟩
/-! ### the pen -/
/-- the pen's list: the cells, the place, what is left -/
def PenL (xs : List Val) : Prop := ∃ (ns : List Int) (a rest : Int), xs = [.ro (iL ns), .int a, .int rest] ∧ 0 ≤ a ∧ 0 ≤ rest
/-- at p lies a pen -/
def Pen (p : Nat) (st : Store) : Prop := ∃ xs, st[p]? = some (.lst xs) ∧ PenL xs
theorem pen_ok {ns : List Int} {st : Store} (h : ns.length ≤ 63) : F_law_pen [.wr (iL ns)] st = .ok (.ref st.length) (st ++ [.lst [.ro (iL ns), .int 0, .int 0]]) := by
  unfold F_law_pen
  walk_at "ev"
  rw [List.take_of_length_le (by show ns.length ≤ 63; exact h)]
theorem mix_low {a b : Int} (h : 0 < b) : 0 ≤ a % b ∧ a % b < b := ⟨Int.emod_nonneg _ (by omega), Int.emod_lt_of_pos _ h⟩
theorem fresh_mix {p : Nat} {st : Store} {a c : Int} {v : Option Val} : ∃ n, r_law_fresh_1 [v, some (.int a), some (.int c), none, none, none, none] st = .rt (.int n) st ∧ 0 ≤ n := by
  walk_at "ev"
  generalize hb : (c * 48271 + 40692 * a + 31) % 2305843009213693951 = b
  have b0 := mix_low (a := c * 48271 + 40692 * a + 31) (b := 2305843009213693951) (by decide)
  rw [hb] at b0
  rw [rngs_map]
  obtain ⟨e1, e2, e3⟩ := fl_foldP (g := gN 6) (b := b_law_fresh_0) (cur := fun _ => some ((List.range 6).map fun i => Val.int (0 + (i : Nat)))) (List.range 6) (fun i => Val.int (0 + (i : Nat)))
    (fun (s : Int × Int) i => ((s.1 * s.1 + 69621 * (0 + (i : Nat) + 1) * (a + 1) + c) % 2305843009213693951, s.2 * 2305843009213693951 + (s.1 * s.1 + 69621 * (0 + (i : Nat) + 1) * (a + 1) + c) % 2305843009213693951))
    (fun _ s => (0 ≤ s.1 ∧ s.1 < 2305843009213693951) ∧ 0 ≤ s.2) (fun s => [none, some (.int a), some (.int c), some (.int 2305843009213693951), some (.int s.1), some (.int s.2), none]) (fun _ => st) (b, b) (by decide) ⟨b0, b0.1⟩ (fun _ => rfl) (by
    rintro d i r s hd ⟨⟨h0, h1⟩, h2⟩
    have hi : i < 6 := by have : i ∈ List.range 6 := by rw [hd]; simp
                          simpa using this
    unfold b_law_fresh_0
    refine ⟨_, _, rfl, .inl ?_, mix_low (by decide), ?_⟩
    · walk_at "ev"
    · have := mix_low (a := s.1 * s.1 + 69621 * (0 + (i : Nat) + 1) * (a + 1) + c) (b := 2305843009213693951) (by decide)
      omega)
  have e1' := e1
  dsimp only at e1'
  rw [e1']
  walk_at "ev"
  exact ⟨_, rfl, e3⟩
theorem fresh_ok {p : Nat} {st : Store} {xs : List Val} (h : st[p]? = some (.lst xs)) (hx : PenL xs) : ∃ n ys, F_law_fresh [.ref p] st = .ok (.int n) (st.set p (.lst ys)) ∧ 0 ≤ n ∧ PenL ys := by
  obtain ⟨ns, a, rest, rfl, a0, r0⟩ := hx
  have hp : p < st.length := (List.getElem?_eq_some_iff.mp h).1
  have pa : ∀ ρ : FL.Env, putAt1 st p (.int 1) (.int (a + 1)) ρ = some (ρ, st.set p (.lst [.ro (iL ns), .int (a + 1), .int rest])) := fun ρ => by rw [putAt_lst h (by decide) (by simp)]; rfl
  have hS : (st.set p (.lst [.ro (iL ns), .int (a + 1), .int rest]))[p]? = some (.lst [.ro (iL ns), .int (a + 1), .int rest]) := store_set hp
  suffices hs : ∀ c : Int, ∃ n, r_law_fresh_2 [some (.ref p), some (.int a), some (.int c), none, none, none, none] (st.set p (.lst [.ro (iL ns), .int (a + 1), .int rest])) = .rt (.int n) (st.set p (.lst [.ro (iL ns), .int (a + 1), .int rest])) ∧ 0 ≤ n by
    unfold F_law_fresh
    simp (disch := walk_at "dz") only [seval, Int.reduceToNat, Nat.reduceAdd, Nat.reduceSub, Nat.reduceMul, Nat.reduceLT, Nat.reduceLeDiff, Nat.reduceEqDiff, Nat.reduceBEq, Nat.reduceMod, Nat.reduceDiv, Int.reduceAdd, Int.reduceSub, Int.reduceMul, Int.reduceNeg, Int.reduceLT, Int.reduceLE, Int.reduceEq, Int.reduceBEq, Int.reduceBNe, Int.reduceMod, Int.reduceDiv, Int.cast_ofNat_Int, t_law_fresh, h, pa, hS]
    by_cases e : ns = []
    · rw [decide_eq_true e]
      obtain ⟨n, h1, h2⟩ := hs 0
      simp (disch := walk_at "dz") only [seval, Int.reduceToNat, Nat.reduceAdd, Nat.reduceSub, Nat.reduceMul, Nat.reduceLT, Nat.reduceLeDiff, Nat.reduceEqDiff, Nat.reduceBEq, Nat.reduceMod, Nat.reduceDiv, Int.reduceAdd, Int.reduceSub, Int.reduceMul, Int.reduceNeg, Int.reduceLT, Int.reduceLE, Int.reduceEq, Int.reduceBEq, Int.reduceBNe, Int.reduceMod, Int.reduceDiv, Int.cast_ofNat_Int, h1]
      exact ⟨n, _, rfl, h2, ns, a + 1, rest, rfl, by omega, r0⟩
    · rw [decide_eq_false e]
      have hl : 0 < (ns.length : Int) := by
        have := List.length_pos_iff.mpr e
        omega
      have hm := mix_low (a := a) hl
      obtain ⟨n, h1, h2⟩ := hs (ns.getD (a % (ns.length : Int)).toNat 0)
      simp (disch := walk_at "dz") only [seval, Int.reduceToNat, Nat.reduceAdd, Nat.reduceSub, Nat.reduceMul, Nat.reduceLT, Nat.reduceLeDiff, Nat.reduceEqDiff, Nat.reduceBEq, Nat.reduceMod, Nat.reduceDiv, Int.reduceAdd, Int.reduceSub, Int.reduceMul, Int.reduceNeg, Int.reduceLT, Int.reduceLE, Int.reduceEq, Int.reduceBEq, Int.reduceBNe, Int.reduceMod, Int.reduceDiv, Int.cast_ofNat_Int, h1, hS]
      exact ⟨n, _, rfl, h2, ns, a + 1, rest, rfl, by omega, r0⟩
  intro c
  obtain ⟨n, h1, h2⟩ := fresh_mix (p := p) (st := st.set p (.lst [.ro (iL ns), .int (a + 1), .int rest])) (a := a) (c := c) (v := some (.ref p))
  simp (disch := walk_at "dz") only [seval, Int.reduceToNat, Nat.reduceAdd, Nat.reduceSub, Nat.reduceMul, Nat.reduceLT, Nat.reduceLeDiff, Nat.reduceEqDiff, Nat.reduceBEq, Nat.reduceMod, Nat.reduceDiv, Int.reduceAdd, Int.reduceSub, Int.reduceMul, Int.reduceNeg, Int.reduceLT, Int.reduceLE, Int.reduceEq, Int.reduceBEq, Int.reduceBNe, Int.reduceMod, Int.reduceDiv, Int.cast_ofNat_Int, r_law_fresh_2, hS]
  by_cases e : a < (ns.length : Int)
  · rw [decide_eq_true e]
    simp (disch := walk_at "dz") only [seval, Int.reduceToNat, Nat.reduceAdd, Nat.reduceSub, Nat.reduceMul, Nat.reduceLT, Nat.reduceLeDiff, Nat.reduceEqDiff, Nat.reduceBEq, Nat.reduceMod, Nat.reduceDiv, Int.reduceAdd, Int.reduceSub, Int.reduceMul, Int.reduceNeg, Int.reduceLT, Int.reduceLE, Int.reduceEq, Int.reduceBEq, Int.reduceBNe, Int.reduceMod, Int.reduceDiv, Int.cast_ofNat_Int]
    by_cases e2 : 1000000000000000000 ≤ c
    · rw [decide_eq_true e2]
      walk_at "ev"
      exact ⟨_, rfl, by omega⟩
    · rw [decide_eq_false e2]
      simp (disch := walk_at "dz") only [seval, Int.reduceToNat, Nat.reduceAdd, Nat.reduceSub, Nat.reduceMul, Nat.reduceLT, Nat.reduceLeDiff, Nat.reduceEqDiff, Nat.reduceBEq, Nat.reduceMod, Nat.reduceDiv, Int.reduceAdd, Int.reduceSub, Int.reduceMul, Int.reduceNeg, Int.reduceLT, Int.reduceLE, Int.reduceEq, Int.reduceBEq, Int.reduceBNe, Int.reduceMod, Int.reduceDiv, Int.cast_ofNat_Int, h1]
      exact ⟨n, rfl, h2⟩
  · rw [decide_eq_false e]
    simp (disch := walk_at "dz") only [seval, Int.reduceToNat, Nat.reduceAdd, Nat.reduceSub, Nat.reduceMul, Nat.reduceLT, Nat.reduceLeDiff, Nat.reduceEqDiff, Nat.reduceBEq, Nat.reduceMod, Nat.reduceDiv, Int.reduceAdd, Int.reduceSub, Int.reduceMul, Int.reduceNeg, Int.reduceLT, Int.reduceLE, Int.reduceEq, Int.reduceBEq, Int.reduceBNe, Int.reduceMod, Int.reduceDiv, Int.cast_ofNat_Int, h1]
    exact ⟨n, rfl, h2⟩
theorem draw_ok {p : Nat} {st : Store} {xs : List Val} {m : Int} (h : st[p]? = some (.lst xs)) (hx : PenL xs) (hm : 0 < m ∧ m < 1152921504606846976) : ∃ d ys, F_law_draw [.ref p, .int m] st = .ok (.int d) (st.set p (.lst ys)) ∧ 0 ≤ d ∧ d < m ∧ PenL ys := by
  have hp : p < st.length := (List.getElem?_eq_some_iff.mp h).1
  have key : ∀ (S : Store) (ns : List Int) (a rest : Int), S[p]? = some (.lst [.ro (iL ns), .int a, .int rest]) → 0 ≤ a → 0 ≤ rest → ∃ d ys, r_law_draw_0 [some (.ref p), some (.int m), none] S = .rt (.int d) (S.set p (.lst ys)) ∧ 0 ≤ d ∧ d < m ∧ PenL ys := by
    intro S ns a rest hS a0 r0
    have pa : ∀ (ρ : FL.Env) (x : Int), putAt1 S p (.int 2) (.int x) ρ = some (ρ, S.set p (.lst [.ro (iL ns), .int a, .int x])) := fun ρ x => by rw [putAt_lst hS (by decide) (by simp)]; rfl
    simp (disch := walk_at "dz") only [seval, Int.reduceToNat, Nat.reduceAdd, Nat.reduceSub, Nat.reduceMul, Nat.reduceLT, Nat.reduceLeDiff, Nat.reduceEqDiff, Nat.reduceBEq, Nat.reduceMod, Nat.reduceDiv, Int.reduceAdd, Int.reduceSub, Int.reduceMul, Int.reduceNeg, Int.reduceLT, Int.reduceLE, Int.reduceEq, Int.reduceBEq, Int.reduceBNe, Int.reduceMod, Int.reduceDiv, Int.cast_ofNat_Int, r_law_draw_0, hS, pa]
    have hmod := mix_low (a := rest) hm.1
    exact ⟨_, _, rfl, hmod.1, hmod.2, ns, a, rest / m, rfl, a0, Int.ediv_nonneg r0 (by omega)⟩
  obtain ⟨ns, a, rest, rfl, a0, r0⟩ := id hx
  unfold F_law_draw
  simp (disch := walk_at "dz") only [seval, Int.reduceToNat, Nat.reduceAdd, Nat.reduceSub, Nat.reduceMul, Nat.reduceLT, Nat.reduceLeDiff, Nat.reduceEqDiff, Nat.reduceBEq, Nat.reduceMod, Nat.reduceDiv, Int.reduceAdd, Int.reduceSub, Int.reduceMul, Int.reduceNeg, Int.reduceLT, Int.reduceLE, Int.reduceEq, Int.reduceBEq, Int.reduceBNe, Int.reduceMod, Int.reduceDiv, Int.cast_ofNat_Int, t_law_draw, h]
  by_cases e : rest < m
  · rw [decide_eq_true e]
    obtain ⟨n, ys, h1, h2, ns', a', rest', rfl, a0', r0'⟩ := fresh_ok h hx
    have hS : (st.set p (.lst [.ro (iL ns'), .int a', .int rest']))[p]? = some (.lst [.ro (iL ns'), .int a', .int rest']) := store_set hp
    have pa : ∀ (ρ : FL.Env), putAt1 (st.set p (.lst [.ro (iL ns'), .int a', .int rest'])) p (.int 2) (.int n) ρ = some (ρ, st.set p (.lst [.ro (iL ns'), .int a', .int n])) := fun ρ => by rw [putAt_lst hS (by decide) (by simp), List.set_set]; rfl
    obtain ⟨d, ys, h3, h4, h5, h6⟩ := key (st.set p (.lst [.ro (iL ns'), .int a', .int n])) ns' a' n (store_set hp) a0' h2
    simp (disch := walk_at "dz") only [seval, Int.reduceToNat, Nat.reduceAdd, Nat.reduceSub, Nat.reduceMul, Nat.reduceLT, Nat.reduceLeDiff, Nat.reduceEqDiff, Nat.reduceBEq, Nat.reduceMod, Nat.reduceDiv, Int.reduceAdd, Int.reduceSub, Int.reduceMul, Int.reduceNeg, Int.reduceLT, Int.reduceLE, Int.reduceEq, Int.reduceBEq, Int.reduceBNe, Int.reduceMod, Int.reduceDiv, Int.cast_ofNat_Int, h1, pa, h3, List.set_set]
    exact ⟨d, ys, rfl, h4, h5, h6⟩
  · rw [decide_eq_false e]
    obtain ⟨d, ys, h3, h4, h5, h6⟩ := key st ns a rest h a0 r0
    simp (disch := walk_at "dz") only [seval, Int.reduceToNat, Nat.reduceAdd, Nat.reduceSub, Nat.reduceMul, Nat.reduceLT, Nat.reduceLeDiff, Nat.reduceEqDiff, Nat.reduceBEq, Nat.reduceMod, Nat.reduceDiv, Int.reduceAdd, Int.reduceSub, Int.reduceMul, Int.reduceNeg, Int.reduceLT, Int.reduceLE, Int.reduceEq, Int.reduceBEq, Int.reduceBNe, Int.reduceMod, Int.reduceDiv, Int.cast_ofNat_Int, h3]
    exact ⟨d, ys, rfl, h4, h5, h6⟩
/-! ### the same, all parts of the same kinds -/
mutual
def plain : Val → Bool
  | .non => true
  | .bl _ => true
  | .int _ => true
  | .str _ => true
  | .tup xs => plains xs
  | .ro xs => plains xs
  | _ => false
def plains : List Val → Bool
  | [] => true
  | x :: xs => plain x && plains xs
end
mutual
def dpV : Val → Nat
  | .tup xs => dpVs xs + 1
  | .ro xs => dpVs xs + 1
  | _ => 0
def dpVs : List Val → Nat
  | [] => 0
  | x :: xs => max (dpV x) (dpVs xs)
end
mutual
def smV : Val → Val → Bool
  | x, .non => isN x
  | x, .bl b => (match x with
    | .bl c => decide (c = b)
    | _ => false)
  | x, .int i => (match x with
    | .int j => decide (j = i)
    | _ => false)
  | x, .str s => (match x with
    | .str t => decide (t = s)
    | _ => false)
  | x, .tup ys => (match x with
    | .tup xs => smVs xs ys
    | _ => false)
  | x, .ro ys => (match x with
    | .ro xs => smVs xs ys
    | _ => false)
  | _, _ => false
def smVs : List Val → List Val → Bool
  | xs, [] => xs.isEmpty
  | xs, y :: ys => (match xs with
    | x :: xs => smV x y && smVs xs ys
    | [] => false)
end
mutual
theorem smV_refl : ∀ {x : Val}, plain x = true → smV x x = true
  | .non, _ => rfl
  | .bl _, _ => by simp [smV]
  | .int _, _ => by simp [smV]
  | .str _, _ => by simp [smV]
  | .tup xs, h => by simp only [smV]; exact smVs_refl (by simpa [plain] using h)
  | .ro xs, h => by simp only [smV]; exact smVs_refl (by simpa [plain] using h)
theorem smVs_refl : ∀ {xs : List Val}, plains xs = true → smVs xs xs = true
  | [], _ => rfl
  | x :: xs, h => by
    have h' := Bool.and_eq_true_iff.mp (show (plain x && plains xs) = true by simpa [plains] using h)
    simp only [smVs]
    rw [smV_refl h'.1, smVs_refl h'.2]
    rfl
end
theorem smVs_len : ∀ {xs ys : List Val}, xs.length ≠ ys.length → smVs xs ys = false
  | [], [], h => absurd rfl h
  | _ :: _, [], _ => rfl
  | [], _ :: _, _ => rfl
  | x :: xs, y :: ys, h => by
    simp only [smVs]
    rw [smVs_len (xs := xs) (ys := ys) (by simpa using h), Bool.and_false]
theorem smVs_zip : ∀ {xs ys : List Val}, xs.length = ys.length → ((xs.zip ys).map fun p : Val × Val => smV p.1 p.2).all id = smVs xs ys
  | [], [], _ => rfl
  | [], _ :: _, h => by simp at h
  | _ :: _, [], h => by simp at h
  | x :: xs, y :: ys, h => by
    rw [List.zip_cons_cons, List.map_cons, List.all_cons, smVs_zip (xs := xs) (ys := ys) (by simpa using h)]
    simp [smVs]
theorem plains_mem : ∀ {xs : List Val} {x : Val}, plains xs = true → x ∈ xs → plain x = true
  | x :: xs, y, h, hm => by
    have h' := Bool.and_eq_true_iff.mp (show (plain x && plains xs) = true by simpa [plains] using h)
    rcases List.mem_cons.mp hm with rfl | hm
    · exact h'.1
    · exact plains_mem h'.2 hm
theorem dpVs_mem : ∀ {xs : List Val} {x : Val}, x ∈ xs → dpV x ≤ dpVs xs
  | x :: xs, y, hm => by
    have e : dpVs (x :: xs) = max (dpV x) (dpVs xs) := by simp [dpVs]
    rw [e]
    rcases List.mem_cons.mp hm with rfl | hm
    · omega
    · have := dpVs_mem hm
      omega
theorem zip_vals (a b : List Val) : List.zipWith prV a b = (a.zip b).map fun p : Val × Val => Val.tup [p.1, p.2] := by
  induction a generalizing b with
  | nil => rfl
  | cons x a ih =>
    cases b with
    | nil => rfl
    | cons y b =>
      rw [List.zipWith_cons_cons, ih, List.zip_cons_cons, List.map_cons]
      rfl
theorem number_ok {x : Val} {st : Store} (h : plain x = true) : F_law_number [x] st = .ok (.bl (match x with | .int _ => true | _ => false)) st := by
  unfold F_law_number
  cases x <;> first | (simp [plain] at h; done) | walk_at "ev"
/-- the comparing of items -/
theorem same_items {x y : Val} {n : Nat} {st : Store} {xs ys : List Val} (hl : xs.length ≤ 10000) (ih : ∀ a b, (a, b) ∈ xs.zip ys → F_law_same n [a, b] st = .ok (.bl (smV a b)) st) :
    lcl (fun _ => some (List.zipWith prV xs ys)) (gTup 2 (gCons (gN 3) (gCons (gN 4) gNil))) tYes (eCall (F_law_same n) [] (aCons (eV 3) (aCons (eV 4) aNil))) [some x, some y, none, none, none] bigN 0 [] st = some (((xs.zip ys).map fun p : Val × Val => smV p.1 p.2).map Val.bl, st) := by
  rw [zip_vals, lcl_mp (xs.zip ys) (fun p : Val × Val => Val.tup [p.1, p.2]) (fun p : Val × Val => Val.bl (smV p.1 p.2)) rfl (by rw [List.length_zip]; omega)]
  · simp
  · rintro ⟨a, b⟩ hm
    have := ih a b hm
    simp (disch := walk_at "dz") only [seval, Int.reduceToNat, Nat.reduceAdd, Nat.reduceSub, Nat.reduceMul, Nat.reduceLT, Nat.reduceLeDiff, Nat.reduceEqDiff, Nat.reduceBEq, Nat.reduceMod, Nat.reduceDiv, Int.reduceAdd, Int.reduceSub, Int.reduceMul, Int.reduceNeg, Int.reduceLT, Int.reduceLE, Int.reduceEq, Int.reduceBEq, Int.reduceBNe, Int.reduceMod, Int.reduceDiv, Int.cast_ofNat_Int, this]
mutual
/-- all rows in a thing have at most 10000 items -/
def small : Val → Bool
  | .tup xs => decide (xs.length ≤ 10000) && smalls xs
  | .ro xs => decide (xs.length ≤ 10000) && smalls xs
  | _ => true
def smalls : List Val → Bool
  | [] => true
  | x :: xs => small x && smalls xs
end
theorem smalls_mem : ∀ {xs : List Val} {x : Val}, smalls xs = true → x ∈ xs → small x = true
  | x :: xs, y, h, hm => by
    have h' := Bool.and_eq_true_iff.mp (show (small x && smalls xs) = true by simpa [smalls] using h)
    rcases List.mem_cons.mp hm with rfl | hm
    · exact h'.1
    · exact smalls_mem h'.2 hm
theorem same_ok : ∀ (n : Nat) {x y : Val} {st : Store}, plain x = true → plain y = true → small x = true → dpV y < n → F_law_same n [x, y] st = .ok (.bl (smV x y)) st
  | 0, _, _, _, _, _, _, h => by omega
  | n + 1, x, y, st, hx, hy, hs, hd => by
    have num := number_ok (x := x) (st := st) hx
    have items : ∀ xs ys : List Val, xs.length ≤ 10000 → plains xs = true → plains ys = true → smalls xs = true → dpVs ys < n → lcl (fun _ => some (List.zipWith prV xs ys)) (gTup 2 (gCons (gN 3) (gCons (gN 4) gNil))) tYes (eCall (F_law_same n) [] (aCons (eV 3) (aCons (eV 4) aNil))) [some x, some y, none, none, none] bigN 0 [] st = some (((xs.zip ys).map fun p : Val × Val => smV p.1 p.2).map Val.bl, st) := fun xs ys hl h1 h2 h3 h4 =>
      same_items hl fun a b hm => same_ok n (plains_mem h1 (List.of_mem_zip hm).1) (plains_mem h2 (List.of_mem_zip hm).2) (smalls_mem h3 (List.of_mem_zip hm).1) (Nat.lt_of_le_of_lt (dpVs_mem (List.of_mem_zip hm).2) h4)
    unfold F_law_same
    cases y with
    | non => walk_at "ev"; simp [smV]
    | bl b => cases x <;> first | (simp [plain] at hx; done) | (walk_at "ev"; simp [smV])
    | int b => cases x <;> first | (simp [plain] at hx; done) | (simp (disch := walk_at "dz") only [seval, Int.reduceToNat, Nat.reduceAdd, Nat.reduceSub, Nat.reduceMul, Nat.reduceLT, Nat.reduceLeDiff, Nat.reduceEqDiff, Nat.reduceBEq, Nat.reduceMod, Nat.reduceDiv, Int.reduceAdd, Int.reduceSub, Int.reduceMul, Int.reduceNeg, Int.reduceLT, Int.reduceLE, Int.reduceEq, Int.reduceBEq, Int.reduceBNe, Int.reduceMod, Int.reduceDiv, Int.cast_ofNat_Int, r_law_fresh_0, r_law_fresh_1, r_law_fresh_2, t_law_fresh, r_law_draw_0, t_law_draw, r_law_bent_row_0, r_law_bent_row_1, r_law_bent_row_2, r_law_bent_row_3, r_law_bent_row_4, t_law_bent_row, r_law_bent_cover_0, r_law_bent_cover_1, r_law_bent_cover_2, r_law_bent_cover_3, t_law_bent_cover, r_law_bent_0, r_law_bent_1, r_law_bent_2, r_law_bent_3, r_law_bent_4, t_law_bent, t_law_coins, t_law_companies, t_law_company, t_law_pen, r_law_piece_0, t_law_piece, t_law_pieces, t_law_number, r_law_same_0, r_law_same_1, r_law_same_2, r_law_same_3, r_law_same_4, r_law_same_5, r_law_same_6, t_law_same, t_is_number, r_is_same_0, r_is_same_1, r_is_same_2, t_is_same, r_turned_0, t_turned, r_with_nought_0, t_with_nought, r_worth_0, t_worth, r_through_0, r_through_1, t_through, t_curve_of, r_lots_of_0, r_lots_of_1, t_lots_of, t_off_hands, r_mended_0, r_mended_1, t_mended, t_is_mended, r_law_0, r_law_1, r_law_2, t_law, num]; simp [smV])
    | str b => cases x <;> first | (simp [plain] at hx; done) | (walk_at "ev"; simp [smV])
    | tup ys =>
      cases x with
      | tup xs =>
        simp [plain] at hx hy
        simp [small] at hs
        simp only [dpV] at hd
        walk_at "ev"
        by_cases e : xs.length = ys.length
        · rw [decide_eq_true (by omega)]
          simp (disch := walk_at "dz") only [seval, Int.reduceToNat, Nat.reduceAdd, Nat.reduceSub, Nat.reduceMul, Nat.reduceLT, Nat.reduceLeDiff, Nat.reduceEqDiff, Nat.reduceBEq, Nat.reduceMod, Nat.reduceDiv, Int.reduceAdd, Int.reduceSub, Int.reduceMul, Int.reduceNeg, Int.reduceLT, Int.reduceLE, Int.reduceEq, Int.reduceBEq, Int.reduceBNe, Int.reduceMod, Int.reduceDiv, Int.cast_ofNat_Int, items xs ys hs.1 hx hy hs.2 (by omega)]
          rw [smVs_zip e]
          simp only [smV]
        · rw [decide_eq_false (by omega)]
          walk_at "ev"
          simp only [smV, smVs_len e]
      | _ => first | (simp [plain] at hx; done) | (walk_at "ev"; simp [smV])
    | ro ys =>
      cases x with
      | ro xs =>
        simp [plain] at hx hy
        simp [small] at hs
        simp only [dpV] at hd
        walk_at "ev"
        by_cases e : xs.length = ys.length
        · rw [decide_eq_true (by omega)]
          simp (disch := walk_at "dz") only [seval, Int.reduceToNat, Nat.reduceAdd, Nat.reduceSub, Nat.reduceMul, Nat.reduceLT, Nat.reduceLeDiff, Nat.reduceEqDiff, Nat.reduceBEq, Nat.reduceMod, Nat.reduceDiv, Int.reduceAdd, Int.reduceSub, Int.reduceMul, Int.reduceNeg, Int.reduceLT, Int.reduceLE, Int.reduceEq, Int.reduceBEq, Int.reduceBNe, Int.reduceMod, Int.reduceDiv, Int.cast_ofNat_Int, items xs ys hs.1 hx hy hs.2 (by omega)]
          rw [smVs_zip e]
          simp only [smV]
        · rw [decide_eq_false (by omega)]
          walk_at "ev"
          simp only [smV, smVs_len e]
      | _ => first | (simp [plain] at hx; done) | (walk_at "ev"; simp [smV])
    | _ => simp [plain] at hy
/-! ### the same, of things with {} in them -/
mutual
def plainZ : Val → Bool
  | .non => true
  | .bl _ => true
  | .int _ => true
  | .str _ => true
  | .tup xs => plainZs xs
  | .ro xs => plainZs xs
  | .rd _ _ => true
  | _ => false
def plainZs : List Val → Bool
  | [] => true
  | x :: xs => plainZ x && plainZs xs
end
theorem plainZs_mem : ∀ {xs : List Val} {x : Val}, plainZs xs = true → x ∈ xs → plainZ x = true
  | x :: xs, y, h, hm => by
    have h' := Bool.and_eq_true_iff.mp (show (plainZ x && plainZs xs) = true by simpa [plainZs] using h)
    rcases List.mem_cons.mp hm with rfl | hm
    · exact h'.1
    · exact plainZs_mem h'.2 hm
theorem numberZ_ok {x : Val} {st : Store} (h : plainZ x = true) : F_law_number [x] st = .ok (.bl (match x with | .int _ => true | _ => false)) st := by
  unfold F_law_number
  cases x <;> first | (simp [plainZ] at h; done) | walk_at "ev"
theorem sameZ_ok : ∀ (n : Nat) {x y : Val} {st : Store}, plainZ x = true → plain y = true → small x = true → dpV y < n → F_law_same n [x, y] st = .ok (.bl (smV x y)) st
  | 0, _, _, _, _, _, _, h => by omega
  | n + 1, x, y, st, hx, hy, hs, hd => by
    have num := numberZ_ok (x := x) (st := st) hx
    have items : ∀ xs ys : List Val, xs.length ≤ 10000 → plainZs xs = true → plains ys = true → smalls xs = true → dpVs ys < n → lcl (fun _ => some (List.zipWith prV xs ys)) (gTup 2 (gCons (gN 3) (gCons (gN 4) gNil))) tYes (eCall (F_law_same n) [] (aCons (eV 3) (aCons (eV 4) aNil))) [some x, some y, none, none, none] bigN 0 [] st = some (((xs.zip ys).map fun p : Val × Val => smV p.1 p.2).map Val.bl, st) := fun xs ys hl h1 h2 h3 h4 =>
      same_items hl fun a b hm => sameZ_ok n (plainZs_mem h1 (List.of_mem_zip hm).1) (plains_mem h2 (List.of_mem_zip hm).2) (smalls_mem h3 (List.of_mem_zip hm).1) (Nat.lt_of_le_of_lt (dpVs_mem (List.of_mem_zip hm).2) h4)
    unfold F_law_same
    cases y with
    | non => walk_at "ev"; simp [smV]
    | bl b => cases x <;> first | (simp [plainZ] at hx; done) | (walk_at "ev"; simp [smV])
    | int b => cases x <;> first | (simp [plainZ] at hx; done) | (simp (disch := walk_at "dz") only [seval, Int.reduceToNat, Nat.reduceAdd, Nat.reduceSub, Nat.reduceMul, Nat.reduceLT, Nat.reduceLeDiff, Nat.reduceEqDiff, Nat.reduceBEq, Nat.reduceMod, Nat.reduceDiv, Int.reduceAdd, Int.reduceSub, Int.reduceMul, Int.reduceNeg, Int.reduceLT, Int.reduceLE, Int.reduceEq, Int.reduceBEq, Int.reduceBNe, Int.reduceMod, Int.reduceDiv, Int.cast_ofNat_Int, r_law_fresh_0, r_law_fresh_1, r_law_fresh_2, t_law_fresh, r_law_draw_0, t_law_draw, r_law_bent_row_0, r_law_bent_row_1, r_law_bent_row_2, r_law_bent_row_3, r_law_bent_row_4, t_law_bent_row, r_law_bent_cover_0, r_law_bent_cover_1, r_law_bent_cover_2, r_law_bent_cover_3, t_law_bent_cover, r_law_bent_0, r_law_bent_1, r_law_bent_2, r_law_bent_3, r_law_bent_4, t_law_bent, t_law_coins, t_law_companies, t_law_company, t_law_pen, r_law_piece_0, t_law_piece, t_law_pieces, t_law_number, r_law_same_0, r_law_same_1, r_law_same_2, r_law_same_3, r_law_same_4, r_law_same_5, r_law_same_6, t_law_same, t_is_number, r_is_same_0, r_is_same_1, r_is_same_2, t_is_same, r_turned_0, t_turned, r_with_nought_0, t_with_nought, r_worth_0, t_worth, r_through_0, r_through_1, t_through, t_curve_of, r_lots_of_0, r_lots_of_1, t_lots_of, t_off_hands, r_mended_0, r_mended_1, t_mended, t_is_mended, r_law_0, r_law_1, r_law_2, t_law, num]; simp [smV])
    | str b => cases x <;> first | (simp [plainZ] at hx; done) | (walk_at "ev"; simp [smV])
    | tup ys =>
      cases x with
      | tup xs =>
        simp [plainZ] at hx
        simp [plain] at hy
        simp [small] at hs
        simp only [dpV] at hd
        walk_at "ev"
        by_cases e : xs.length = ys.length
        · rw [decide_eq_true (by omega)]
          simp (disch := walk_at "dz") only [seval, Int.reduceToNat, Nat.reduceAdd, Nat.reduceSub, Nat.reduceMul, Nat.reduceLT, Nat.reduceLeDiff, Nat.reduceEqDiff, Nat.reduceBEq, Nat.reduceMod, Nat.reduceDiv, Int.reduceAdd, Int.reduceSub, Int.reduceMul, Int.reduceNeg, Int.reduceLT, Int.reduceLE, Int.reduceEq, Int.reduceBEq, Int.reduceBNe, Int.reduceMod, Int.reduceDiv, Int.cast_ofNat_Int, items xs ys hs.1 hx hy hs.2 (by omega)]
          rw [smVs_zip e]
          simp only [smV]
        · rw [decide_eq_false (by omega)]
          walk_at "ev"
          simp only [smV, smVs_len e]
      | _ => first | (simp [plainZ] at hx; done) | (walk_at "ev"; simp [smV])
    | ro ys =>
      cases x with
      | ro xs =>
        simp [plainZ] at hx
        simp [plain] at hy
        simp [small] at hs
        simp only [dpV] at hd
        walk_at "ev"
        by_cases e : xs.length = ys.length
        · rw [decide_eq_true (by omega)]
          simp (disch := walk_at "dz") only [seval, Int.reduceToNat, Nat.reduceAdd, Nat.reduceSub, Nat.reduceMul, Nat.reduceLT, Nat.reduceLeDiff, Nat.reduceEqDiff, Nat.reduceBEq, Nat.reduceMod, Nat.reduceDiv, Int.reduceAdd, Int.reduceSub, Int.reduceMul, Int.reduceNeg, Int.reduceLT, Int.reduceLE, Int.reduceEq, Int.reduceBEq, Int.reduceBNe, Int.reduceMod, Int.reduceDiv, Int.cast_ofNat_Int, items xs ys hs.1 hx hy hs.2 (by omega)]
          rw [smVs_zip e]
          simp only [smV]
        · rw [decide_eq_false (by omega)]
          walk_at "ev"
          simp only [smV, smVs_len e]
      | _ => first | (simp [plainZ] at hx; done) | (walk_at "ev"; simp [smV])
    | _ => simp [plain] at hy
/-! ### is_same of plain things without truths and None -/
mutual
def sure : Val → Bool
  | .int _ => true
  | .str _ => true
  | .tup xs => sures xs
  | .ro xs => sures xs
  | _ => false
def sures : List Val → Bool
  | [] => true
  | x :: xs => sure x && sures xs
end
theorem sures_mem : ∀ {xs : List Val} {x : Val}, sures xs = true → x ∈ xs → sure x = true
  | x :: xs, y, h, hm => by
    have h' := Bool.and_eq_true_iff.mp (show (sure x && sures xs) = true by simpa [sures] using h)
    rcases List.mem_cons.mp hm with rfl | hm
    · exact h'.1
    · exact sures_mem h'.2 hm
mutual
theorem sure_plain : ∀ {x : Val}, sure x = true → plain x = true
  | .int _, _ => rfl
  | .str _, _ => rfl
  | .tup xs, h => by
    have := sures_plain (xs := xs) (by simpa [sure] using h)
    simpa [plain] using this
  | .ro xs, h => by
    have := sures_plain (xs := xs) (by simpa [sure] using h)
    simpa [plain] using this
  | .non, h => by simp [sure] at h
  | .bl _, h => by simp [sure] at h
  | .wr _, h => by simp [sure] at h
  | .rd _ _, h => by simp [sure] at h
  | .ref _, h => by simp [sure] at h
  | .ty _, h => by simp [sure] at h
  | .gl _, h => by simp [sure] at h
  | .ex0 _, h => by simp [sure] at h
  | .ex1 _ _ _, h => by simp [sure] at h
theorem sures_plain : ∀ {xs : List Val}, sures xs = true → plains xs = true
  | [], _ => rfl
  | x :: xs, h => by
    have h' := Bool.and_eq_true_iff.mp (show (sure x && sures xs) = true by simpa [sures] using h)
    show (plain x && plains xs) = true
    rw [sure_plain h'.1, sures_plain h'.2]
    rfl
end
mutual
theorem plain_Z : ∀ {x : Val}, plain x = true → plainZ x = true
  | .non, _ => rfl
  | .bl _, _ => rfl
  | .int _, _ => rfl
  | .str _, _ => rfl
  | .tup xs, h => by
    have := plains_Z (xs := xs) (by simpa [plain] using h)
    simpa [plainZ] using this
  | .ro xs, h => by
    have := plains_Z (xs := xs) (by simpa [plain] using h)
    simpa [plainZ] using this
  | .wr _, h => by simp [plain] at h
  | .rd _ _, h => by simp [plain] at h
  | .ref _, h => by simp [plain] at h
  | .ty _, h => by simp [plain] at h
  | .gl _, h => by simp [plain] at h
  | .ex0 _, h => by simp [plain] at h
  | .ex1 _ _ _, h => by simp [plain] at h
theorem plains_Z : ∀ {xs : List Val}, plains xs = true → plainZs xs = true
  | [], _ => rfl
  | x :: xs, h => by
    have h' := Bool.and_eq_true_iff.mp (show (plain x && plains xs) = true by simpa [plains] using h)
    show (plainZ x && plainZs xs) = true
    rw [plain_Z h'.1, plains_Z h'.2]
    rfl
end
theorem inumber_ok {x : Val} {st : Store} (h : plainZ x = true) : F_is_number [x] st = .ok (.bl (match x with | .int _ => true | _ => false)) st := by
  unfold F_is_number
  cases x <;> first | (simp [plainZ] at h; done) | walk_at "ev"
theorem zip_strict (a b : List Val) : List.zipWith prV a b = (a.zip b).map fun p : Val × Val => Val.tup [p.1, p.2] := zip_vals a b
theorem isame_items {x y : Val} {n : Nat} {st : Store} {xs ys : List Val} (hl : xs.length ≤ 10000) (ih : ∀ a b, (a, b) ∈ xs.zip ys → F_is_same n [a, b] st = .ok (.bl (smV a b)) st) :
    lcl (fun _ => some (List.zipWith prV xs ys)) (gTup 2 (gCons (gN 2) (gCons (gN 3) gNil))) tYes (eCall (F_is_same n) [] (aCons (eV 2) (aCons (eV 3) aNil))) [some x, some y, none, none] bigN 0 [] st = some (((xs.zip ys).map fun p : Val × Val => smV p.1 p.2).map Val.bl, st) := by
  rw [zip_vals, lcl_mp (xs.zip ys) (fun p : Val × Val => Val.tup [p.1, p.2]) (fun p : Val × Val => Val.bl (smV p.1 p.2)) rfl (by rw [List.length_zip]; omega)]
  · simp
  · rintro ⟨a, b⟩ hm
    have := ih a b hm
    simp (disch := walk_at "dz") only [seval, Int.reduceToNat, Nat.reduceAdd, Nat.reduceSub, Nat.reduceMul, Nat.reduceLT, Nat.reduceLeDiff, Nat.reduceEqDiff, Nat.reduceBEq, Nat.reduceMod, Nat.reduceDiv, Int.reduceAdd, Int.reduceSub, Int.reduceMul, Int.reduceNeg, Int.reduceLT, Int.reduceLE, Int.reduceEq, Int.reduceBEq, Int.reduceBNe, Int.reduceMod, Int.reduceDiv, Int.cast_ofNat_Int, this]
theorem isame_ok : ∀ (n : Nat) {x y : Val} {st : Store}, plainZ x = true → sure y = true → small x = true → dpV y < n → F_is_same n [x, y] st = .ok (.bl (smV x y)) st
  | 0, _, _, _, _, _, _, h => by omega
  | n + 1, x, y, st, hx, hy, hs, hd => by
    have num := inumber_ok (x := x) (st := st) hx
    have num2 := inumber_ok (x := y) (st := st) (plain_Z (sure_plain hy))
    have items : ∀ xs ys : List Val, xs.length ≤ 10000 → plainZs xs = true → sures ys = true → smalls xs = true → dpVs ys < n → lcl (fun _ => some (List.zipWith prV xs ys)) (gTup 2 (gCons (gN 2) (gCons (gN 3) gNil))) tYes (eCall (F_is_same n) [] (aCons (eV 2) (aCons (eV 3) aNil))) [some x, some y, none, none] bigN 0 [] st = some (((xs.zip ys).map fun p : Val × Val => smV p.1 p.2).map Val.bl, st) := fun xs ys hl h1 h2 h3 h4 =>
      isame_items hl fun a b hm => isame_ok n (plainZs_mem h1 (List.of_mem_zip hm).1) (sures_mem h2 (List.of_mem_zip hm).2) (smalls_mem h3 (List.of_mem_zip hm).1) (Nat.lt_of_le_of_lt (dpVs_mem (List.of_mem_zip hm).2) h4)
    unfold F_is_same
    cases y with
    | int b => cases x <;> first | (simp [plainZ] at hx; done) | (simp (disch := walk_at "dz") only [seval, Int.reduceToNat, Nat.reduceAdd, Nat.reduceSub, Nat.reduceMul, Nat.reduceLT, Nat.reduceLeDiff, Nat.reduceEqDiff, Nat.reduceBEq, Nat.reduceMod, Nat.reduceDiv, Int.reduceAdd, Int.reduceSub, Int.reduceMul, Int.reduceNeg, Int.reduceLT, Int.reduceLE, Int.reduceEq, Int.reduceBEq, Int.reduceBNe, Int.reduceMod, Int.reduceDiv, Int.cast_ofNat_Int, r_law_fresh_0, r_law_fresh_1, r_law_fresh_2, t_law_fresh, r_law_draw_0, t_law_draw, r_law_bent_row_0, r_law_bent_row_1, r_law_bent_row_2, r_law_bent_row_3, r_law_bent_row_4, t_law_bent_row, r_law_bent_cover_0, r_law_bent_cover_1, r_law_bent_cover_2, r_law_bent_cover_3, t_law_bent_cover, r_law_bent_0, r_law_bent_1, r_law_bent_2, r_law_bent_3, r_law_bent_4, t_law_bent, t_law_coins, t_law_companies, t_law_company, t_law_pen, r_law_piece_0, t_law_piece, t_law_pieces, t_law_number, r_law_same_0, r_law_same_1, r_law_same_2, r_law_same_3, r_law_same_4, r_law_same_5, r_law_same_6, t_law_same, t_is_number, r_is_same_0, r_is_same_1, r_is_same_2, t_is_same, r_turned_0, t_turned, r_with_nought_0, t_with_nought, r_worth_0, t_worth, r_through_0, r_through_1, t_through, t_curve_of, r_lots_of_0, r_lots_of_1, t_lots_of, t_off_hands, r_mended_0, r_mended_1, t_mended, t_is_mended, r_law_0, r_law_1, r_law_2, t_law, num, num2]; simp [smV])
    | str b => cases x <;> first | (simp [plainZ] at hx; done) | (walk_at "ev"; simp [smV])
    | tup ys =>
      cases x with
      | tup xs =>
        simp [plainZ] at hx
        simp [sure] at hy
        simp [small] at hs
        simp only [dpV] at hd
        simp (disch := walk_at "dz") only [seval, Int.reduceToNat, Nat.reduceAdd, Nat.reduceSub, Nat.reduceMul, Nat.reduceLT, Nat.reduceLeDiff, Nat.reduceEqDiff, Nat.reduceBEq, Nat.reduceMod, Nat.reduceDiv, Int.reduceAdd, Int.reduceSub, Int.reduceMul, Int.reduceNeg, Int.reduceLT, Int.reduceLE, Int.reduceEq, Int.reduceBEq, Int.reduceBNe, Int.reduceMod, Int.reduceDiv, Int.cast_ofNat_Int, r_law_fresh_0, r_law_fresh_1, r_law_fresh_2, t_law_fresh, r_law_draw_0, t_law_draw, r_law_bent_row_0, r_law_bent_row_1, r_law_bent_row_2, r_law_bent_row_3, r_law_bent_row_4, t_law_bent_row, r_law_bent_cover_0, r_law_bent_cover_1, r_law_bent_cover_2, r_law_bent_cover_3, t_law_bent_cover, r_law_bent_0, r_law_bent_1, r_law_bent_2, r_law_bent_3, r_law_bent_4, t_law_bent, t_law_coins, t_law_companies, t_law_company, t_law_pen, r_law_piece_0, t_law_piece, t_law_pieces, t_law_number, r_law_same_0, r_law_same_1, r_law_same_2, r_law_same_3, r_law_same_4, r_law_same_5, r_law_same_6, t_law_same, t_is_number, r_is_same_0, r_is_same_1, r_is_same_2, t_is_same, r_turned_0, t_turned, r_with_nought_0, t_with_nought, r_worth_0, t_worth, r_through_0, r_through_1, t_through, t_curve_of, r_lots_of_0, r_lots_of_1, t_lots_of, t_off_hands, r_mended_0, r_mended_1, t_mended, t_is_mended, r_law_0, r_law_1, r_law_2, t_law, num2]
        by_cases e : xs.length = ys.length
        · rw [decide_eq_true (by omega)]
          simp (disch := walk_at "dz") only [seval, Int.reduceToNat, Nat.reduceAdd, Nat.reduceSub, Nat.reduceMul, Nat.reduceLT, Nat.reduceLeDiff, Nat.reduceEqDiff, Nat.reduceBEq, Nat.reduceMod, Nat.reduceDiv, Int.reduceAdd, Int.reduceSub, Int.reduceMul, Int.reduceNeg, Int.reduceLT, Int.reduceLE, Int.reduceEq, Int.reduceBEq, Int.reduceBNe, Int.reduceMod, Int.reduceDiv, Int.cast_ofNat_Int, items xs ys hs.1 hx hy hs.2 (by omega)]
          rw [smVs_zip e]
          simp only [smV]
        · rw [decide_eq_false (by omega)]
          walk_at "ev"
          simp only [smV, smVs_len e]
      | _ => first | (simp [plainZ] at hx; done) | (simp (disch := walk_at "dz") only [seval, Int.reduceToNat, Nat.reduceAdd, Nat.reduceSub, Nat.reduceMul, Nat.reduceLT, Nat.reduceLeDiff, Nat.reduceEqDiff, Nat.reduceBEq, Nat.reduceMod, Nat.reduceDiv, Int.reduceAdd, Int.reduceSub, Int.reduceMul, Int.reduceNeg, Int.reduceLT, Int.reduceLE, Int.reduceEq, Int.reduceBEq, Int.reduceBNe, Int.reduceMod, Int.reduceDiv, Int.cast_ofNat_Int, r_law_fresh_0, r_law_fresh_1, r_law_fresh_2, t_law_fresh, r_law_draw_0, t_law_draw, r_law_bent_row_0, r_law_bent_row_1, r_law_bent_row_2, r_law_bent_row_3, r_law_bent_row_4, t_law_bent_row, r_law_bent_cover_0, r_law_bent_cover_1, r_law_bent_cover_2, r_law_bent_cover_3, t_law_bent_cover, r_law_bent_0, r_law_bent_1, r_law_bent_2, r_law_bent_3, r_law_bent_4, t_law_bent, t_law_coins, t_law_companies, t_law_company, t_law_pen, r_law_piece_0, t_law_piece, t_law_pieces, t_law_number, r_law_same_0, r_law_same_1, r_law_same_2, r_law_same_3, r_law_same_4, r_law_same_5, r_law_same_6, t_law_same, t_is_number, r_is_same_0, r_is_same_1, r_is_same_2, t_is_same, r_turned_0, t_turned, r_with_nought_0, t_with_nought, r_worth_0, t_worth, r_through_0, r_through_1, t_through, t_curve_of, r_lots_of_0, r_lots_of_1, t_lots_of, t_off_hands, r_mended_0, r_mended_1, t_mended, t_is_mended, r_law_0, r_law_1, r_law_2, t_law, num2]; simp [smV])
    | ro ys =>
      cases x with
      | ro xs =>
        simp [plainZ] at hx
        simp [sure] at hy
        simp [small] at hs
        simp only [dpV] at hd
        simp (disch := walk_at "dz") only [seval, Int.reduceToNat, Nat.reduceAdd, Nat.reduceSub, Nat.reduceMul, Nat.reduceLT, Nat.reduceLeDiff, Nat.reduceEqDiff, Nat.reduceBEq, Nat.reduceMod, Nat.reduceDiv, Int.reduceAdd, Int.reduceSub, Int.reduceMul, Int.reduceNeg, Int.reduceLT, Int.reduceLE, Int.reduceEq, Int.reduceBEq, Int.reduceBNe, Int.reduceMod, Int.reduceDiv, Int.cast_ofNat_Int, r_law_fresh_0, r_law_fresh_1, r_law_fresh_2, t_law_fresh, r_law_draw_0, t_law_draw, r_law_bent_row_0, r_law_bent_row_1, r_law_bent_row_2, r_law_bent_row_3, r_law_bent_row_4, t_law_bent_row, r_law_bent_cover_0, r_law_bent_cover_1, r_law_bent_cover_2, r_law_bent_cover_3, t_law_bent_cover, r_law_bent_0, r_law_bent_1, r_law_bent_2, r_law_bent_3, r_law_bent_4, t_law_bent, t_law_coins, t_law_companies, t_law_company, t_law_pen, r_law_piece_0, t_law_piece, t_law_pieces, t_law_number, r_law_same_0, r_law_same_1, r_law_same_2, r_law_same_3, r_law_same_4, r_law_same_5, r_law_same_6, t_law_same, t_is_number, r_is_same_0, r_is_same_1, r_is_same_2, t_is_same, r_turned_0, t_turned, r_with_nought_0, t_with_nought, r_worth_0, t_worth, r_through_0, r_through_1, t_through, t_curve_of, r_lots_of_0, r_lots_of_1, t_lots_of, t_off_hands, r_mended_0, r_mended_1, t_mended, t_is_mended, r_law_0, r_law_1, r_law_2, t_law, num2]
        by_cases e : xs.length = ys.length
        · rw [decide_eq_true (by omega)]
          simp (disch := walk_at "dz") only [seval, Int.reduceToNat, Nat.reduceAdd, Nat.reduceSub, Nat.reduceMul, Nat.reduceLT, Nat.reduceLeDiff, Nat.reduceEqDiff, Nat.reduceBEq, Nat.reduceMod, Nat.reduceDiv, Int.reduceAdd, Int.reduceSub, Int.reduceMul, Int.reduceNeg, Int.reduceLT, Int.reduceLE, Int.reduceEq, Int.reduceBEq, Int.reduceBNe, Int.reduceMod, Int.reduceDiv, Int.cast_ofNat_Int, items xs ys hs.1 hx hy hs.2 (by omega)]
          rw [smVs_zip e]
          simp only [smV]
        · rw [decide_eq_false (by omega)]
          walk_at "ev"
          simp only [smV, smVs_len e]
      | _ => first | (simp [plainZ] at hx; done) | (simp (disch := walk_at "dz") only [seval, Int.reduceToNat, Nat.reduceAdd, Nat.reduceSub, Nat.reduceMul, Nat.reduceLT, Nat.reduceLeDiff, Nat.reduceEqDiff, Nat.reduceBEq, Nat.reduceMod, Nat.reduceDiv, Int.reduceAdd, Int.reduceSub, Int.reduceMul, Int.reduceNeg, Int.reduceLT, Int.reduceLE, Int.reduceEq, Int.reduceBEq, Int.reduceBNe, Int.reduceMod, Int.reduceDiv, Int.cast_ofNat_Int, r_law_fresh_0, r_law_fresh_1, r_law_fresh_2, t_law_fresh, r_law_draw_0, t_law_draw, r_law_bent_row_0, r_law_bent_row_1, r_law_bent_row_2, r_law_bent_row_3, r_law_bent_row_4, t_law_bent_row, r_law_bent_cover_0, r_law_bent_cover_1, r_law_bent_cover_2, r_law_bent_cover_3, t_law_bent_cover, r_law_bent_0, r_law_bent_1, r_law_bent_2, r_law_bent_3, r_law_bent_4, t_law_bent, t_law_coins, t_law_companies, t_law_company, t_law_pen, r_law_piece_0, t_law_piece, t_law_pieces, t_law_number, r_law_same_0, r_law_same_1, r_law_same_2, r_law_same_3, r_law_same_4, r_law_same_5, r_law_same_6, t_law_same, t_is_number, r_is_same_0, r_is_same_1, r_is_same_2, t_is_same, r_turned_0, t_turned, r_with_nought_0, t_with_nought, r_worth_0, t_worth, r_through_0, r_through_1, t_through, t_curve_of, r_lots_of_0, r_lots_of_1, t_lots_of, t_off_hands, r_mended_0, r_mended_1, t_mended, t_is_mended, r_law_0, r_law_1, r_law_2, t_law, num2]; simp [smV])
    | _ => simp [sure] at hy
def tpI (r : List Int) : Val := .tup (iL r)
theorem lots_ok : ∀ (n : Nat) {s m l : Nat} {st : Store}, s < n → m ≤ 7 → s ≤ 5 → l ≤ 8 → F_lots_of n [.int (m : Nat), .int (s : Nat), .int (l : Nat)] st = .ok (.ro ((lotsP s m l).map tpI)) st
  | 0, _, _, _, _, h, _, _, _ => absurd h (Nat.not_lt_zero _)
  | n + 1, 0, m, l, st, _, hm, hs, hl => by
    unfold F_lots_of
    simp (disch := walk_at "dz") only [seval, Int.reduceToNat, Nat.reduceAdd, Nat.reduceSub, Nat.reduceMul, Nat.reduceLT, Nat.reduceLeDiff, Nat.reduceEqDiff, Nat.reduceBEq, Nat.reduceMod, Nat.reduceDiv, Int.reduceAdd, Int.reduceSub, Int.reduceMul, Int.reduceNeg, Int.reduceLT, Int.reduceLE, Int.reduceEq, Int.reduceBEq, Int.reduceBNe, Int.reduceMod, Int.reduceDiv, Int.cast_ofNat_Int, r_law_fresh_0, r_law_fresh_1, r_law_fresh_2, t_law_fresh, r_law_draw_0, t_law_draw, r_law_bent_row_0, r_law_bent_row_1, r_law_bent_row_2, r_law_bent_row_3, r_law_bent_row_4, t_law_bent_row, r_law_bent_cover_0, r_law_bent_cover_1, r_law_bent_cover_2, r_law_bent_cover_3, t_law_bent_cover, r_law_bent_0, r_law_bent_1, r_law_bent_2, r_law_bent_3, r_law_bent_4, t_law_bent, t_law_coins, t_law_companies, t_law_company, t_law_pen, r_law_piece_0, t_law_piece, t_law_pieces, t_law_number, r_law_same_0, r_law_same_1, r_law_same_2, r_law_same_3, r_law_same_4, r_law_same_5, r_law_same_6, t_law_same, t_is_number, r_is_same_0, r_is_same_1, r_is_same_2, t_is_same, r_turned_0, t_turned, r_with_nought_0, t_with_nought, r_worth_0, t_worth, r_through_0, r_through_1, t_through, t_curve_of, r_lots_of_0, r_lots_of_1, t_lots_of, t_off_hands, r_mended_0, r_mended_1, t_mended, t_is_mended, r_law_0, r_law_1, r_law_2, t_law]
    rw [retV_id (by rw [List.take_length]) rfl]
    rfl
  | n + 1, s + 1, m, l, st, h, hm, hs, hl => by
    unfold F_lots_of
    have e0 : decide (((s + 1 : Nat) : Int) = 0) = false := decide_eq_false (by omega)
    simp (disch := walk_at "dz") only [seval, Int.reduceToNat, Nat.reduceAdd, Nat.reduceSub, Nat.reduceMul, Nat.reduceLT, Nat.reduceLeDiff, Nat.reduceEqDiff, Nat.reduceBEq, Nat.reduceMod, Nat.reduceDiv, Int.reduceAdd, Int.reduceSub, Int.reduceMul, Int.reduceNeg, Int.reduceLT, Int.reduceLE, Int.reduceEq, Int.reduceBEq, Int.reduceBNe, Int.reduceMod, Int.reduceDiv, Int.cast_ofNat_Int, t_lots_of, r_lots_of_1, e0]
    rw [rngs_map, show ((m : Int) - ((s + 1 : Nat) : Int) + 1 - (l : Nat)).toNat = m - s - l by omega]
    obtain ⟨ρ', s', e, rfl, rfl⟩ := fl_nx (g := gN 4) (b := b_lots_of_0 (F_lots_of n)) (cur := fun _ => some ((List.range (m - s - l)).map fun i => Val.int ((l : Nat) + (i : Nat)))) (ρ := [some (.int (m : Nat)), some (.int ((s + 1 : Nat) : Int)), none, some (.ref st.length), none, none]) (st := st ++ [.lst []]) (List.range (m - s - l)) (fun i => Val.int ((l : Nat) + (i : Nat)))
      (fun d ρ s1 => ρ = [some (.int (m : Nat)), some (.int ((s + 1 : Nat) : Int)), none, some (.ref st.length), none, none] ∧ s1 = st ++ [.lst ((d.flatMap fun i => (lotsP s m (l + i + 1)).map fun r => ((l + i : Nat) : Int) :: r).map tpI)]) (by rw [List.length_range]; omega) ⟨rfl, rfl⟩ (fun _ _ _ _ => rfl) (by
      rintro d i r ρ s1 hd ⟨rfl, rfl⟩
      have hi : i < m - s - l := by
        have : i ∈ List.range (m - s - l) := by rw [hd]; simp
        exact List.mem_range.mp this
      have hsz := lots_part hd hm (by omega) hl
      have w := lots_ok n (s := s) (m := m) (l := l + i + 1) (st := st ++ [.lst ((d.flatMap fun i => (lotsP s m (l + i + 1)).map fun r => ((l + i : Nat) : Int) :: r).map tpI)]) (by omega) hm (by omega) (by omega)
      have e1 : ((s + 1 : Nat) : Int) - 1 = (s : Nat) := by omega
      have e2 : ((l : Nat) : Int) + (i : Nat) + 1 = ((l + i + 1 : Nat) : Int) := by omega
      unfold b_lots_of_0
      refine ⟨_, _, rfl, ?_⟩
      simp (disch := walk_at "dz") only [seval, Int.reduceToNat, Nat.reduceAdd, Nat.reduceSub, Nat.reduceMul, Nat.reduceLT, Nat.reduceLeDiff, Nat.reduceEqDiff, Nat.reduceBEq, Nat.reduceMod, Nat.reduceDiv, Int.reduceAdd, Int.reduceSub, Int.reduceMul, Int.reduceNeg, Int.reduceLT, Int.reduceLE, Int.reduceEq, Int.reduceBEq, Int.reduceBNe, Int.reduceMod, Int.reduceDiv, Int.cast_ofNat_Int, e1, e2, w]
      rw [lcl_mp (lotsP s m (l + i + 1)) tpI (fun r => tpI (((l + i : Nat) : Int) :: r)) rfl (by omega)]
      · have em : (lotsP s m (l + i + 1)).map (fun r => tpI (((l + i : Nat) : Int) :: r)) = ((lotsP s m (l + i + 1)).map fun r => ((l + i : Nat) : Int) :: r).map tpI := by
          rw [List.map_map]
          rfl
        rw [em]
        generalize hA : (d.flatMap fun i => (lotsP s m (l + i + 1)).map fun r => ((l + i : Nat) : Int) :: r) = A at *
        simp (disch := walk_at "dz") only [seval, Int.reduceToNat, Nat.reduceAdd, Nat.reduceSub, Nat.reduceMul, Nat.reduceLT, Nat.reduceLeDiff, Nat.reduceEqDiff, Nat.reduceBEq, Nat.reduceMod, Nat.reduceDiv, Int.reduceAdd, Int.reduceSub, Int.reduceMul, Int.reduceNeg, Int.reduceLT, Int.reduceLE, Int.reduceEq, Int.reduceBEq, Int.reduceBNe, Int.reduceMod, Int.reduceDiv, Int.cast_ofNat_Int]
        refine ⟨trivial, ?_⟩
        rw [List.flatMap_append, hA, List.map_append]
        simp
      · intro r hr
        have hrl := (lotsP_mem.mp hr).1
        unfold tpI
        simp (disch := walk_at "dz") only [seval, Int.reduceToNat, Nat.reduceAdd, Nat.reduceSub, Nat.reduceMul, Nat.reduceLT, Nat.reduceLeDiff, Nat.reduceEqDiff, Nat.reduceBEq, Nat.reduceMod, Nat.reduceDiv, Int.reduceAdd, Int.reduceSub, Int.reduceMul, Int.reduceNeg, Int.reduceLT, Int.reduceLE, Int.reduceEq, Int.reduceBEq, Int.reduceBNe, Int.reduceMod, Int.reduceDiv, Int.cast_ofNat_Int]
        rfl)
    rw [e]
    walk_at "ev"
    rw [retV_lst (belows_map fun r _ => by rw [tpI, below_tup, belows_ints])]
    conv => rhs; unfold lotsP
/-! ### pieces -/
def coV (q n t : Int) : Val := .tup [.int q, .int n, .int t]
theorem hand_pts {hl pl : List Int} {q n t : Int} {st : Store} {a b : Option Val} (hz : hl.length ≤ 10000) (hb : ∀ h ∈ hl, 0 ≤ h ∧ h < (pl.length : Int)) : lcl (fun _ => some (iL hl)) (gN 3) tYes (eTup (aCons (eOp (fAdd false) (eV 3) (eC (.int 1))) (aCons (eOp fIx (eV 2) (eV 3)) aNil))) [a, b, some (.tup (iL pl)), none] bigN 0 [] st = some ((hPts hl pl).map ptV, st) := by
  rw [lcl_mp hl Val.int (fun h => ptV (h + 1, pl.getD h.toNat 0)) rfl hz]
  · unfold hPts
    simp
  · intro h hh
    have := hb h hh
    walk_at "ev"
    rfl
theorem hPts_mem {hl pl : List Int} {p : Int × Int} (hb : ∀ h ∈ hl, 0 ≤ h ∧ h < (pl.length : Int)) (h : p ∈ hPts hl pl) : p.2 ∈ pl := by
  unfold hPts at h
  obtain ⟨x, hx, rfl⟩ := List.mem_map.mp h
  have := hb x hx
  dsimp only
  rw [List.getD_eq_getElem?_getD, List.getElem?_eq_getElem (by omega)]
  exact List.getElem_mem _
theorem curve_of_ok {hl pl : List Int} {q n t : Int} {v : Val} {st : Store} (hv : SqV v (iL hl)) (hq : q ∈ nine) (hz : hl.length ≤ 100) (hb : ∀ h ∈ hl, 0 ≤ h ∧ h < (pl.length : Int)) (hp : PlacesL q ((hPts hl pl).map (·.1))) (hn : ∀ p ∈ pl, -(2 ^ 60) < p ∧ p < 2 ^ 60) :
    ∃ cs, F_curve_of [coV q n t, v, .tup (iL pl)] st = .ok (.tup (iL cs)) st ∧ Thru q (hPts hl pl) cs := by
  obtain ⟨cs, h1, h2⟩ := through_ok (st := st) hq hp (fun p hm => hn _ (hPts_mem hb hm)) (by unfold hPts; rw [List.length_map]; exact hz)
  refine ⟨cs, ?_, h2⟩
  unfold coV
  rcases hv with rfl | rfl <;> (unfold F_curve_of; walk_at "ev"; rw [hand_pts (n := n) (t := t) (q := q) (by omega) hb]; simp (disch := walk_at "dz") only [seval, Int.reduceToNat, Nat.reduceAdd, Nat.reduceSub, Nat.reduceMul, Nat.reduceLT, Nat.reduceLeDiff, Nat.reduceEqDiff, Nat.reduceBEq, Nat.reduceMod, Nat.reduceDiv, Int.reduceAdd, Int.reduceSub, Int.reduceMul, Int.reduceNeg, Int.reduceLT, Int.reduceLE, Int.reduceEq, Int.reduceBEq, Int.reduceBNe, Int.reduceMod, Int.reduceDiv, Int.cast_ofNat_Int, h1])
theorem zipIdx_range (pl : List Int) : pl.zipIdx = (List.range pl.length).map fun i => (pl.getD i 0, i) := by
  apply List.ext_getElem?
  intro i
  rw [List.getElem?_zipIdx, List.getElem?_map]
  by_cases h : i < pl.length
  · rw [List.getElem?_range h, List.getElem?_eq_getElem h]
    simp [List.getD_eq_getElem?_getD, List.getElem?_eq_getElem h]
  · rw [List.getElem?_eq_none (by omega), List.getElem?_eq_none (by rw [List.length_range]; omega)]
    rfl
theorem off_hands_ok {cs pl : List Int} {q n t : Int} {st : Store} (h0 : 0 < q) (hc : cs.length < 10000) (hz : pl.length ≤ 1000) : F_off_hands [coV q n t, .tup (iL cs), .tup (iL pl)] st = .ok (.ro (iL (offL q cs pl))) st := by
  unfold coV F_off_hands
  walk_at "ev"
  rw [enL_ints, lcl_fm pl.zipIdx (fun p => Val.tup [.int (p.2 : Nat), .int p.1]) (fun p => if pev cs ((p.2 : Int) + 1) % q ≠ p.1 then some (.int (p.2 : Nat)) else none) rfl (by rw [List.length_zipIdx]; omega)]
  · have e : pl.zipIdx.filterMap (fun p : Int × Nat => if pev cs ((p.2 : Int) + 1) % q ≠ p.1 then some (Val.int (p.2 : Nat)) else none) = iL (offL q cs pl) := by
      rw [filterMap_if, zipIdx_range, List.filter_map, List.map_map]
      unfold offL rngI
      rw [List.filter_map]
      simp [Function.comp_def]
    rw [e]
    walk_at "ev"
  · rintro ⟨p, i⟩ hm
    have hi : i < pl.length := by
      obtain ⟨k, hk⟩ := List.mem_iff_getElem?.mp hm
      rw [List.getElem?_zipIdx] at hk
      cases e : pl[k]? with
      | none => rw [e] at hk; cases hk
      | some m =>
        rw [e] at hk
        simp at hk
        have := (List.getElem?_eq_some_iff.mp e).1
        omega
    have w : F_worth [.tup (iL cs), .int ((i : Int) + 1), .int q] st = .ok (.int (pev cs ((i : Int) + 1) % q)) st := worth_ok (.inl rfl) h0 (by omega) hc
    simp (disch := walk_at "dz") only [seval, Int.reduceToNat, Nat.reduceAdd, Nat.reduceSub, Nat.reduceMul, Nat.reduceLT, Nat.reduceLeDiff, Nat.reduceEqDiff, Nat.reduceBEq, Nat.reduceMod, Nat.reduceDiv, Int.reduceAdd, Int.reduceSub, Int.reduceMul, Int.reduceNeg, Int.reduceLT, Int.reduceLE, Int.reduceEq, Int.reduceBEq, Int.reduceBNe, Int.reduceMod, Int.reduceDiv, Int.cast_ofNat_Int, w]
    by_cases e : pev cs ((i : Int) + 1) % q = p
    · rw [decide_eq_true e, if_neg (by simpa using e)]
      walk_at "ev"
    · rw [decide_eq_false e, if_pos e]
      walk_at "ev"
theorem retV_tag {st cs : Store} {xs : List Val} {s : Str} (h : belows 0 xs = true) : retV st (.tup [.str s, .ref st.length]) (st ++ .lst xs :: cs) = (.tup [.str s, .ro xs], st) := by
  have hf : frzN st.length (st ++ .lst xs :: cs) 40 st.length = some (.ro xs) := by
    unfold frzN
    rw [show Nat.blt st.length st.length = false from Bool.eq_false_iff.mpr fun z => Nat.lt_irrefl _ (Nat.le_of_ble_eq_true z)]
    dsimp only [cond_false]
    rw [List.getElem?_append_right (Nat.le_refl _), Nat.sub_self]
    dsimp only [List.getElem?_cons_zero]
    rw [frzVs_id h]
  have hg : frz st.length (st ++ .lst xs :: cs) (.tup [.str s, .ref st.length]) = some (.tup [.str s, .ro xs]) := by
    show frzV (frzN st.length (st ++ .lst xs :: cs) 40) (.tup [.str s, .ref st.length]) = _
    simp only [frzV, frzVs, hf]
  unfold retV
  rw [hg]
  dsimp only
  rw [leftB_same (by rw [List.take_append_of_le_length (Nat.le_refl _), List.take_length]), List.take_append_of_le_length (Nat.le_refl _), List.take_length]
  rfl
def rowV (r : List Int × List Int) : Val := .tup [.tup (iL r.1), .tup (iL r.2)]
/-- a row of a cover -/
structure RowK (n : Int) (r : List Int × List Int) : Prop where
  lot : 1 ≤ r.1.length ∧ r.1.length ≤ 4
  off : r.2.length ≤ 7
  lotb : ∀ x ∈ r.1, 0 ≤ x ∧ x < 10
  offb : ∀ x ∈ r.2, 0 ≤ x ∧ x < 10
/-- what is told of pieces -/
inductive Mg (q n : Int) : Val → Prop
  | num {v : Int} {off : List Int} : 0 ≤ v → v < q → off.length ≤ 7 → (∀ x ∈ off, 0 ≤ x ∧ x < 10) → Mg q n (.tup [.str "number", .int v, .tup (iL off)])
  | none {rows : List (List Int × List Int)} : 1 ≤ rows.length → rows.length ≤ 10 → (∀ r ∈ rows, RowK n r) → Mg q n (.tup [.str "none", .ro (rows.map rowV)])
theorem rows_below : ∀ {l : List (List Int × List Int)}, belows 0 (l.map rowV) = true
  | [] => rfl
  | r :: l => by
    rw [List.map_cons, belows_cons, rows_below]
    unfold rowV
    rw [below_tup, belows_cons, belows_cons, below_tup, below_tup, belows_ints, belows_ints]
    rfl
noncomputable def mendF (q : Int) (f : Nat) (pl : List Int) : List (List Int) → List (List Int × List Int) → Val
  | [], rows => .tup [.str "none", .ro (rows.map rowV)]
  | hl :: ls, rows => if (offL q (cvOf q hl pl) pl).length ≤ f then .tup [.str "number", .int ((cvOf q hl pl).getD 0 0), .tup (iL (offL q (cvOf q hl pl) pl))] else mendF q f pl ls (rows ++ [(hl, (offL q (cvOf q hl pl) pl).take (((f : Nat) : Int) + 1).toNat)])
theorem mendF_cons {q : Int} {f : Nat} {pl hl : List Int} {ls : List (List Int)} {rows : List (List Int × List Int)} : mendF q f pl (hl :: ls) rows = if (offL q (cvOf q hl pl) pl).length ≤ f then .tup [.str "number", .int ((cvOf q hl pl).getD 0 0), .tup (iL (offL q (cvOf q hl pl) pl))] else mendF q f pl ls (rows ++ [(hl, (offL q (cvOf q hl pl) pl).take (((f : Nat) : Int) + 1).toNat)]) := rfl
theorem mended_ok {q : Int} {n t : Nat} {pl : List Int} {st : Store} (hq : q ∈ nine) (hn : n ≤ 7) (ht : 1 ≤ t ∧ t ≤ 3) (htn : 2 * t < n) (hnq : (n : Int) < q) (hl : pl.length = n) (hb : ∀ p ∈ pl, 0 ≤ p ∧ p < q) : ∃ g, F_mended [coV q (n : Int) (t : Int), .tup (iL pl)] st = .ok g st ∧ Mg q (n : Int) g ∧ g = mendF q ((n - t - 1) / 2) pl (lotsP (t + 1) (t + (n - t - 1) / 2 + 1) 0) [] := by
  have hq5 := nine_le hq
  have hco : coV q (n : Int) (t : Int) = .tup [.int q, .int (n : Int), .int (t : Int)] := rfl
  have w0 := lots_ok 6 (s := t + 1) (m := t + (n - t - 1) / 2 + 1) (l := 0) (st := st ++ [.lst []]) (by omega) (by omega) (by omega) (by omega)
  have e1 : ((n : Int) - (t : Int) - 1) / 2 = ((n - t - 1) / 2 : Nat) := by omega
  have e2 : (t : Int) + ((((n - t - 1) / 2 : Nat)) : Int) + 1 = ((t + (n - t - 1) / 2 + 1 : Nat) : Int) := by omega
  have e3 : (t : Int) + 1 = ((t + 1 : Nat) : Int) := by omega
  have w1 : F_lots_of 6 [.int ((t + (n - t - 1) / 2 + 1 : Nat) : Int), .int ((t + 1 : Nat) : Int), .int 0] (st ++ [.lst []]) = .ok (.ro ((lotsP (t + 1) (t + (n - t - 1) / 2 + 1) 0).map tpI)) (st ++ [.lst []]) := w0
  obtain ⟨f, hf⟩ : ∃ f, f = (n - t - 1) / 2 := ⟨_, rfl⟩
  rw [← hf] at e1 e2 w1 ⊢
  have hsz := lots_sz (m := t + f + 1) (s := t + 1) (by omega) (by omega)
  have hcnt : 1 ≤ (lotsP (t + 1) (t + f + 1) 0).length ∧ (lotsP (t + 1) (t + f + 1) 0).length ≤ 10 := by
    have hall : ∀ n ∈ List.range 8, ∀ t ∈ List.range 4, 1 ≤ t → 2 * t < n → 1 ≤ (lotsP (t + 1) (t + (n - t - 1) / 2 + 1) 0).length ∧ (lotsP (t + 1) (t + (n - t - 1) / 2 + 1) 0).length ≤ 10 := by decide +kernel
    rw [hf]
    exact hall n (List.mem_range.mpr (by omega)) t (List.mem_range.mpr (by omega)) ht.1 htn
  have ht0 : ∀ cs : List Int, cs.length = t + 1 → (∀ {ps}, Thru q ps cs → 0 ≤ cs.getD 0 0 ∧ cs.getD 0 0 < q) := fun cs hc ps hT => by
    rw [List.getD_eq_getElem?_getD, List.getElem?_eq_getElem (show 0 < cs.length by omega)]
    exact hT.low _ (List.getElem_mem _)
  have key := fl_rel (g := gN 7) (b := b_mended_0) (cur := fun _ => some ((lotsP (t + 1) (t + f + 1) 0).map tpI)) (ρ := [some (coV q (n : Int) (t : Int)), some (.tup (iL pl)), none, none, none, some (.int (f : Nat)), some (.ref st.length), none, none, none]) (st := st ++ [.lst []])
    (Q := fun r => (∃ g cs ρ, r = .rt g (st ++ cs) ∧ Mg q (n : Int) g ∧ below 0 g = true ∧ g = mendF q f pl (lotsP (t + 1) (t + f + 1) 0) [] ∧ ρ = cs) ∨ ∃ rows : List (List Int × List Int), r = .nx [some (coV q (n : Int) (t : Int)), some (.tup (iL pl)), none, none, none, some (.int (f : Nat)), some (.ref st.length), none, none, none] (st ++ [.lst (rows.map rowV)]) ∧ rows.length = (lotsP (t + 1) (t + f + 1) 0).length ∧ (∀ r ∈ rows, RowK (n : Int) r) ∧ mendF q f pl [] rows = mendF q f pl (lotsP (t + 1) (t + f + 1) 0) [])
    (lotsP (t + 1) (t + f + 1) 0) tpI
    (fun d ρ s => ∃ rows : List (List Int × List Int), ρ = [some (coV q (n : Int) (t : Int)), some (.tup (iL pl)), none, none, none, some (.int (f : Nat)), some (.ref st.length), none, none, none] ∧ s = st ++ [.lst (rows.map rowV)] ∧ rows.length = d.length ∧ (∀ r ∈ rows, RowK (n : Int) r) ∧ ∀ rest, lotsP (t + 1) (t + f + 1) 0 = d ++ rest → mendF q f pl rest rows = mendF q f pl (lotsP (t + 1) (t + f + 1) 0) []) (by omega) ⟨[], rfl, rfl, rfl, (fun _ h => by cases h), fun rest h => by rw [h]; rfl⟩ (fun _ _ _ _ => rfl) (by
    rintro d hl r ρ s hd ⟨rows, rfl, rfl, hrl, hrk, hmf⟩
    have hmf := hmf _ hd
    have hm : hl ∈ lotsP (t + 1) (t + f + 1) 0 := by rw [hd]; simp
    have hdl : d.length < 20 := by
      have := congrArg List.length hd
      rw [List.length_append, List.length_cons] at this
      omega
    obtain ⟨h1, h2, h3⟩ := lotsP_mem.mp hm
    have hlo : Lot q n hl := ⟨h2.imp fun h e => by omega, fun x hx => by have := h3 x hx; omega, hnq⟩
    obtain ⟨cs, w2, hT⟩ := curve_of_ok (hl := hl) (pl := pl) (q := q) (n := (n : Int)) (t := (t : Int)) (v := tpI hl) (st := st ++ [.lst (rows.map rowV)]) (.inl rfl) hq (by omega) (fun x hx => by have := h3 x hx; omega) (hlo.places pl) (fun p hp => by have := hb p hp; omega)
    have hcv : cvOf q hl pl = cs := hlo.one hq hT
    rw [mendF_cons, hcv] at hmf
    have hcl : cs.length = t + 1 := by rw [hT.num]; unfold hPts; rw [List.length_map]; exact h1
    have w3 := off_hands_ok (cs := cs) (pl := pl) (q := q) (n := (n : Int)) (t := (t : Int)) (st := st ++ [.lst (rows.map rowV)]) (by omega) (by omega) (by omega)
    have hol : (offL q cs pl).length ≤ 7 := by
      have := List.length_filter_le (fun h => decide (pev cs (h + 1) % q ≠ pl.getD h.toNat 0)) (rngI 0 pl.length)
      rw [rngI_len] at this
      unfold offL
      omega
    have hob : ∀ x ∈ offL q cs pl, 0 ≤ x ∧ x < 10 := fun x hx => by
      have := rngI_mem (List.mem_filter.mp hx).1
      omega
    have hat : atI (iL cs) 0 = some (.int (cs.getD 0 0)) := by
      refine at_eq (Int.le_refl 0) ?_
      rw [show (0 : Int).toNat = 0 from rfl, List.getElem?_map, List.getD_eq_getElem?_getD, List.getElem?_eq_getElem (by omega)]
      rfl
    refine ⟨_, _, rfl, ?_⟩
    unfold b_mended_0
    by_cases ho : (((offL q cs pl).length : Nat) : Int) ≤ (f : Nat)
    · simp (disch := walk_at "dz") only [seval, Int.reduceToNat, Nat.reduceAdd, Nat.reduceSub, Nat.reduceMul, Nat.reduceLT, Nat.reduceLeDiff, Nat.reduceEqDiff, Nat.reduceBEq, Nat.reduceMod, Nat.reduceDiv, Int.reduceAdd, Int.reduceSub, Int.reduceMul, Int.reduceNeg, Int.reduceLT, Int.reduceLE, Int.reduceEq, Int.reduceBEq, Int.reduceBNe, Int.reduceMod, Int.reduceDiv, Int.cast_ofNat_Int, w2, w3, decide_eq_true ho, hat]
      have hv := ht0 cs hcl hT
      exact .inl ⟨_, _, _, rfl, .num hv.1 hv.2 hol hob, by rw [below_tup, belows_cons, belows_cons, belows_cons, below_tup, belows_ints]; rfl, by rw [← hmf, if_pos (by omega)], rfl⟩
    · simp (disch := walk_at "dz") only [seval, Int.reduceToNat, Nat.reduceAdd, Nat.reduceSub, Nat.reduceMul, Nat.reduceLT, Nat.reduceLeDiff, Nat.reduceEqDiff, Nat.reduceBEq, Nat.reduceMod, Nat.reduceDiv, Int.reduceAdd, Int.reduceSub, Int.reduceMul, Int.reduceNeg, Int.reduceLT, Int.reduceLE, Int.reduceEq, Int.reduceBEq, Int.reduceBNe, Int.reduceMod, Int.reduceDiv, Int.cast_ofNat_Int, w2, w3, decide_eq_false ho, r_mended_1]
      refine ⟨rows ++ [(hl, (offL q cs pl).take (((f : Nat) : Int) + 1).toNat)], trivial, by rw [List.map_append]; rfl, by rw [List.length_append, hrl]; rfl, fun r hr => ?_, fun rest hrest => ?_⟩
      rotate_left
      · have er : r = rest := by
          rw [hd, List.append_assoc] at hrest
          exact (List.cons.inj (List.append_cancel_left hrest)).2
        rw [← er, ← hmf, if_neg (by omega)]
      rcases List.mem_append.mp hr with hr | hr
      · exact hrk r hr
      · rw [List.mem_singleton.mp hr]
        refine ⟨?_, ?_, fun x hx => ?_, fun x hx => hob x (List.mem_of_mem_take hx)⟩
        · show 1 ≤ hl.length ∧ hl.length ≤ 4
          omega
        · show (List.take _ _).length ≤ 7
          rw [List.length_take]
          omega
        · have := h3 x hx
          omega) (fun ρ s h => by
    obtain ⟨rows, rfl, rfl, h1, h2, h3⟩ := h
    exact .inr ⟨rows, rfl, h1, h2, h3 [] (List.append_nil _).symm⟩)
  unfold F_mended
  rw [hco] at key ⊢
  simp (disch := walk_at "dz") only [seval, Int.reduceToNat, Nat.reduceAdd, Nat.reduceSub, Nat.reduceMul, Nat.reduceLT, Nat.reduceLeDiff, Nat.reduceEqDiff, Nat.reduceBEq, Nat.reduceMod, Nat.reduceDiv, Int.reduceAdd, Int.reduceSub, Int.reduceMul, Int.reduceNeg, Int.reduceLT, Int.reduceLE, Int.reduceEq, Int.reduceBEq, Int.reduceBNe, Int.reduceMod, Int.reduceDiv, Int.cast_ofNat_Int, t_mended, e1, e2, e3, w1]
  rcases key with ⟨g, cs, ρ, e, hg, hb0, hgm, rfl⟩ | ⟨rows, e, hr1, hr2, hr3⟩
  · rw [e]
    refine ⟨g, ?_, hg, hgm⟩
    walk_at "ev"
    rw [retV_id (by rw [List.take_append_of_le_length (Nat.le_refl _), List.take_length]) hb0]
  · rw [e]
    refine ⟨.tup [.str "none", .ro (rows.map rowV)], ?_, .none (by omega) (by omega) hr2, hr3⟩
    walk_at "ev"
    rw [retV_tag rows_below]
theorem mended_det {q : Int} {n t : Nat} {pl : List Int} (hq : q ∈ nine) (hn : n ≤ 7) (ht : 1 ≤ t ∧ t ≤ 3) (htn : 2 * t < n) (hnq : (n : Int) < q) (hl : pl.length = n) (hb : ∀ p ∈ pl, 0 ≤ p ∧ p < q) : ∃ g, (∀ st, F_mended [coV q (n : Int) (t : Int), .tup (iL pl)] st = .ok g st) ∧ Mg q (n : Int) g := by
  obtain ⟨g0, _, h2, h3⟩ := mended_ok (st := []) hq hn ht htn hnq hl hb
  refine ⟨g0, fun st => ?_, h2⟩
  obtain ⟨g, w1, _, w3⟩ := mended_ok (st := st) hq hn ht htn hnq hl hb
  rw [w1, w3, h3]
/-! ### data with bounds -/
def Dt (c p : Nat) (x : Val) : Prop := ∃ d : PyData, x = ofD d ∧ FL.nice d = true ∧ FL.cnt d ≤ c ∧ d.depth ≤ p
def Dts (c p : Nat) (xs : List Val) : Prop := ∃ ds : List PyData, xs = ofDs ds ∧ nices ds = true ∧ cnts ds ≤ c ∧ PyData.depthAll ds ≤ p
theorem Dt.up {c p c' p' : Nat} {x : Val} (h : Dt c p x) (hc : c ≤ c') (hp : p ≤ p') : Dt c' p' x := let ⟨d, e, n, h1, h2⟩ := h; ⟨d, e, n, Nat.le_trans h1 hc, Nat.le_trans h2 hp⟩
theorem Dts.up {c p c' p' : Nat} {x : List Val} (h : Dts c p x) (hc : c ≤ c') (hp : p ≤ p') : Dts c' p' x := let ⟨d, e, n, h1, h2⟩ := h; ⟨d, e, n, Nat.le_trans h1 hc, Nat.le_trans h2 hp⟩
theorem Dts.nil : Dts 0 0 [] := ⟨[], rfl, rfl, Nat.le_refl _, Nat.le_refl _⟩
theorem Dts.cons {c p c' p' : Nat} {x : Val} {xs : List Val} (h : Dt c p x) (g : Dts c' p' xs) : Dts (c + c') (max p p') (x :: xs) := by
  obtain ⟨d, rfl, n, h1, h2⟩ := h
  obtain ⟨ds, rfl, m, g1, g2⟩ := g
  refine ⟨d :: ds, rfl, ?_, ?_, ?_⟩
  · show (FL.nice d && nices ds) = true
    rw [n, m]
    rfl
  · show FL.cnt d + cnts ds ≤ _
    omega
  · simp only [PyData.depthAll]
    omega
theorem Dts.tup {c p : Nat} {xs : List Val} (h : Dts c p xs) : Dt (c + 1) (p + 1) (.tup xs) := by
  obtain ⟨ds, rfl, m, g1, g2⟩ := h
  refine ⟨.tuple ds, rfl, by simpa [FL.nice] using m, by show cnts ds + 1 ≤ _; omega, ?_⟩
  simp only [PyData.depth]
  omega
theorem Dts.ro {c p : Nat} {xs : List Val} (h : Dts c p xs) : Dt (c + 1) (p + 1) (.ro xs) := by
  obtain ⟨ds, rfl, m, g1, g2⟩ := h
  refine ⟨.list ds, rfl, by simpa [FL.nice] using m, by show cnts ds + 1 ≤ _; omega, ?_⟩
  simp only [PyData.depth]
  omega
theorem Dts.all {c p : Nat} : ∀ {xs : List Val} {k : Nat}, xs.length ≤ k → (∀ x ∈ xs, Dt c p x) → Dts (k * c) p xs
  | [], k, _, _ => Dts.nil.up (Nat.zero_le _) (Nat.zero_le _)
  | x :: xs, k, hk, h => by
    have h1 := h x List.mem_cons_self
    have h2 := Dts.all (xs := xs) (k := k - 1) (by rw [List.length_cons] at hk; omega) fun y hy => h y (List.mem_cons_of_mem _ hy)
    refine (Dts.cons h1 h2).up ?_ (by omega)
    rw [List.length_cons] at hk
    obtain ⟨j, rfl⟩ : ∃ j, k = j + 1 := ⟨k - 1, by omega⟩
    rw [Nat.add_sub_cancel, Nat.succ_mul]
    omega
theorem Dt.int {i : Int} (h : i.natAbs < 10 ^ 60) : Dt 1 0 (.int i) := ⟨.int i, rfl, by simp only [FL.nice]; exact decide_eq_true h, Nat.le_refl _, by simp [PyData.depth]⟩
theorem Dt.bl {b : Bool} : Dt 1 0 (.bl b) := ⟨.bool b, rfl, rfl, Nat.le_refl _, by simp [PyData.depth]⟩
theorem Dt.non : Dt 1 0 .non := ⟨.none, rfl, rfl, Nat.le_refl _, by simp [PyData.depth]⟩
theorem Dt.str {s : Str} (h : FL.nice (.str s) = true) : Dt 1 0 (.str s) := ⟨.str s, rfl, h, Nat.le_refl _, by simp [PyData.depth]⟩
theorem Dt.emp : Dt 1 1 (.rd [] []) := ⟨.dict [], rfl, rfl, Nat.le_refl _, by simp [PyData.depth, PyData.depthKv]⟩
theorem Dts.ints {l : List Int} {k : Nat} (hk : l.length ≤ k) (h : ∀ x ∈ l, x.natAbs < 10 ^ 60) : Dts k 0 (iL l) := by
  have := Dts.all (c := 1) (p := 0) (xs := iL l) (k := k) (by rw [List.length_map]; exact hk) fun x hx => by
    obtain ⟨y, hy, rfl⟩ := List.mem_map.mp hx
    exact Dt.int (h y hy)
  rwa [Nat.mul_one] at this
mutual
theorem nice_pz : ∀ {d : PyData}, FL.nice d = true → plainZ (ofD d) = true ∧ below 0 (ofD d) = true
  | .none, _ => ⟨rfl, rfl⟩
  | .bool _, _ => ⟨rfl, rfl⟩
  | .int _, _ => ⟨rfl, rfl⟩
  | .str _, _ => ⟨rfl, rfl⟩
  | .list ds, h => by
    obtain ⟨a, b⟩ := nices_pz (ds := ds) (by simpa [FL.nice] using h)
    unfold ofD
    exact ⟨by simpa [plainZ] using a, by simpa [below] using b⟩
  | .tuple ds, h => by
    obtain ⟨a, b⟩ := nices_pz (ds := ds) (by simpa [FL.nice] using h)
    unfold ofD
    exact ⟨by simpa [plainZ] using a, by simpa [below] using b⟩
  | .dict kvs, h => by
    cases kvs with
    | nil => exact ⟨rfl, rfl⟩
    | cons _ _ => simp [FL.nice] at h
theorem nices_pz : ∀ {ds : List PyData}, nices ds = true → plainZs (ofDs ds) = true ∧ belows 0 (ofDs ds) = true
  | [], _ => ⟨rfl, rfl⟩
  | d :: ds, h => by
    have h' := Bool.and_eq_true_iff.mp (show (FL.nice d && nices ds) = true by simpa [nices] using h)
    obtain ⟨a, b⟩ := nice_pz h'.1
    obtain ⟨a2, b2⟩ := nices_pz h'.2
    exact ⟨by show (plainZ (ofD d) && plainZs (ofDs ds)) = true; rw [a, a2]; rfl, by show (below 0 (ofD d) && belows 0 (ofDs ds)) = true; rw [b, b2]; rfl⟩
end
theorem cnt_pos : ∀ d : PyData, 1 ≤ FL.cnt d := fun d => by cases d <;> simp [FL.cnt]
theorem cnts_len : ∀ {ds : List PyData}, (ofDs ds).length ≤ cnts ds
  | [] => Nat.le_refl _
  | d :: ds => by
    have := cnts_len (ds := ds)
    have := cnt_pos d
    show (ofDs ds).length + 1 ≤ FL.cnt d + cnts ds
    omega
mutual
theorem cnt_small : ∀ {d : PyData}, FL.cnt d ≤ 10000 → small (ofD d) = true
  | .none, _ => rfl
  | .bool _, _ => rfl
  | .int _, _ => rfl
  | .str _, _ => rfl
  | .list ds, h => by
    have h1 : cnts ds + 1 ≤ 10000 := h
    have h2 := cnts_len (ds := ds)
    have h3 := cnts_small (ds := ds) (by omega)
    unfold ofD
    simp [small, h3]
    omega
  | .tuple ds, h => by
    have h1 : cnts ds + 1 ≤ 10000 := h
    have h2 := cnts_len (ds := ds)
    have h3 := cnts_small (ds := ds) (by omega)
    unfold ofD
    simp [small, h3]
    omega
  | .dict kvs, h => by cases kvs <;> rfl
theorem cnts_small : ∀ {ds : List PyData}, cnts ds ≤ 10000 → smalls (ofDs ds) = true
  | [], _ => rfl
  | d :: ds, h => by
    have h1 : FL.cnt d + cnts ds ≤ 10000 := h
    show (small (ofD d) && smalls (ofDs ds)) = true
    rw [cnt_small (by omega), cnts_small (by omega)]
    rfl
end
/-- what the law asks of a thing -/
theorem Dt.ok {c p : Nat} {x : Val} (h : Dt c p x) (hc : c ≤ 800) (hp : p ≤ 60) : plainZ x = true ∧ below 0 x = true ∧ small x = true ∧ ∀ st, ∃ s, fReprU [x] st = some (.str s, st) := by
  obtain ⟨d, rfl, n, h1, h2⟩ := h
  exact ⟨(nice_pz n).1, (nice_pz n).2, cnt_small (by omega), fun st => repr_any n (by omega) (by omega)⟩
/-! ### drawing, the rest staying -/
/-- p's cell may change, a pen it stays; all else stays -/
structure Pd (p : Nat) (st st' : Store) : Prop where
  len : st'.length = st.length
  oth : ∀ i, i ≠ p → st'[i]? = st[i]?
  pen : Pen p st'
theorem Pd.trans {p : Nat} {a b c : Store} (h : Pd p a b) (g : Pd p b c) : Pd p a c := ⟨g.len.trans h.len, fun i hi => (g.oth i hi).trans (h.oth i hi), g.pen⟩
theorem Pd.refl {p : Nat} {a : Store} (h : Pen p a) : Pd p a a := ⟨rfl, fun _ _ => rfl, h⟩
theorem draw_pen {p : Nat} {st : Store} {m : Int} (h : Pen p st) (hm : 0 < m ∧ m < 1152921504606846976) : ∃ d st', F_law_draw [.ref p, .int m] st = .ok (.int d) st' ∧ 0 ≤ d ∧ d < m ∧ Pd p st st' := by
  obtain ⟨xs, h1, h2⟩ := h
  obtain ⟨d, ys, e, d0, d1, hy⟩ := draw_ok h1 h2 hm
  exact ⟨d, _, e, d0, d1, List.length_set, fun i hi => List.getElem?_set_ne fun z => hi z.symm, ys, store_set (List.getElem?_eq_some_iff.mp h1).1, hy⟩
/-- at the beginning -/
theorem pen_new {ns : List Int} {st : Store} : Pen st.length (st ++ [.lst [.ro (iL ns), .int 0, .int 0]]) := ⟨_, store_new, ns, 0, 0, rfl, Int.le_refl _, Int.le_refl _⟩
/-- all cells speak of cells of the store alone -/
def Cl (st : Store) : Prop := closed st.length st = true
theorem PenL.cl {xs : List Val} {n : Nat} (h : PenL xs) : cellBelow n (.lst xs) = true := by
  obtain ⟨ns, a, r, rfl, _, _⟩ := h
  show belows n _ = true
  simp only [belows_cons, below_ro, belows_ints, below_int, belows_nil, Bool.and_self]
theorem Pd.cl {p : Nat} {st st' : Store} (h : Pd p st st') (c : Cl st) : Cl st' := by
  unfold Cl closed
  refine List.all_eq_true.mpr fun x hx => ?_
  obtain ⟨i, hi⟩ := List.mem_iff_getElem?.mp hx
  rw [h.len]
  by_cases e : i = p
  · subst e
    obtain ⟨xs, h1, h2⟩ := h.pen
    rw [h1] at hi
    cases hi
    exact h2.cl
  · rw [h.oth i e] at hi
    exact List.all_eq_true.mp c x (List.mem_of_getElem? hi)
theorem retV_cl {st0 st' : Store} {cs : Store} {x : Val} (hl : st'.length = st0.length) (hb : below 0 x = true) (hc : Cl st') : retV st0 x (st' ++ cs) = (x, st') := by
  have ht : (st' ++ cs).take st0.length = st' := by rw [← hl, List.take_append_of_le_length (Nat.le_refl _), List.take_length]
  unfold retV frz
  rw [frzV_id hb]
  dsimp only
  have hL : leftB st0 (st' ++ cs) = true := by
    unfold leftB
    rw [ht, ← hl, show closed st'.length st' = true from hc, Bool.or_true]
  rw [hL, ht]
  rfl
theorem cl_pen {ns : List Int} : Cl [.lst [.ro (iL ns), .int 0, .int 0]] := by
  show (cellBelow 1 (.lst [.ro (iL ns), .int 0, .int 0]) && true) = true
  rw [PenL.cl ⟨ns, 0, 0, rfl, Int.le_refl _, Int.le_refl _⟩]
  rfl
/-- a pen stays a pen behind what is added -/
theorem Pen.app {p : Nat} {st cs : Store} (h : Pen p st) : Pen p (st ++ cs) := by
  obtain ⟨xs, h1, h2⟩ := h
  exact ⟨xs, by rw [List.getElem?_append_left (List.getElem?_eq_some_iff.mp h1).1]; exact h1, h2⟩
/-- drawing with cells behind -/
theorem Pd.split {p : Nat} {st st' cs : Store} (h : Pd p (st ++ cs) st') (hp : p < st.length) : ∃ s2, st' = s2 ++ cs ∧ (Pen p st → Pd p st s2) := by
  have hl := h.len
  rw [List.length_append] at hl
  have e : st' = st'.take st.length ++ cs := by
    apply List.ext_getElem?
    intro i
    by_cases hi : i < st.length
    · rw [List.getElem?_append_left (by rw [List.length_take]; omega), List.getElem?_take, if_pos hi]
    · have h2 := h.oth i (by omega)
      rw [h2, List.getElem?_append_right (by omega), List.getElem?_append_right (by rw [List.length_take]; omega), List.length_take, Nat.min_eq_left (by omega)]
  refine ⟨st'.take st.length, e, fun hpn => ⟨by rw [List.length_take]; omega, fun i hi => ?_, ?_⟩⟩
  · rw [List.getElem?_take]
    by_cases hl2 : i < st.length
    · rw [if_pos hl2, h.oth i hi, List.getElem?_append_left hl2]
    · rw [if_neg hl2, List.getElem?_eq_none (by omega)]
  · obtain ⟨xs, h1, h2⟩ := h.pen
    exact ⟨xs, by rw [List.getElem?_take, if_pos hp]; exact h1, h2⟩
theorem Pen.lt {p : Nat} {st : Store} (h : Pen p st) : p < st.length := let ⟨_, h1, _⟩ := h; (List.getElem?_eq_some_iff.mp h1).1
/-- drawing where a cell lies behind -/
theorem draw_pen' {p : Nat} {st cs : Store} {m : Int} (h : Pen p st) (hm : 0 < m ∧ m < 1152921504606846976) : ∃ d st', F_law_draw [.ref p, .int m] (st ++ cs) = .ok (.int d) (st' ++ cs) ∧ 0 ≤ d ∧ d < m ∧ Pd p st st' := by
  obtain ⟨d, s1, e, d0, d1, hd⟩ := draw_pen (m := m) (h.app (cs := cs)) hm
  obtain ⟨s2, rfl, hs⟩ := hd.split h.lt
  exact ⟨d, s2, e, d0, d1, hs h⟩
theorem retV_cl0 {st0 st' : Store} {x : Val} (hl : st'.length = st0.length) (hb : below 0 x = true) (hc : Cl st') : retV st0 x st' = (x, st') := by
  have := retV_cl (cs := []) hl hb hc
  rwa [List.append_nil] at this
/-- small whole numbers -/
def Is (xs : List Val) : Prop := ∀ x ∈ xs, ∃ i : Int, x = .int i ∧ -100 < i ∧ i < 100
theorem Is.ints {l : List Int} (h : ∀ x ∈ l, -100 < x ∧ x < 100) : Is (iL l) := fun x hx => by
  obtain ⟨y, hy, rfl⟩ := List.mem_map.mp hx
  exact ⟨y, rfl, h y hy⟩
theorem Is.app {a b : List Val} (h : Is a) (g : Is b) : Is (a ++ b) := fun x hx => (List.mem_append.mp hx).elim (h x) (g x)
theorem Is.rev {a : List Val} (h : Is a) : Is a.reverse := fun x hx => h x (List.mem_reverse.mp hx)
theorem Is.drop {a : List Val} {k : Nat} (h : Is a) : Is (a.drop k) := fun x hx => h x (List.mem_of_mem_drop hx)
theorem Is.take {a : List Val} {k : Nat} (h : Is a) : Is (a.take k) := fun x hx => h x (List.mem_of_mem_take hx)
theorem Is.six : Is [.int 6] := fun x hx => ⟨6, List.mem_singleton.mp hx, by decide, by decide⟩
theorem Is.dts {xs : List Val} {k : Nat} (h : Is xs) (hk : xs.length ≤ k) : Dts k 0 xs := by
  have := Dts.all (c := 1) (p := 0) hk fun x hx => by
    obtain ⟨i, rfl, h1, h2⟩ := h x hx
    exact Dt.int (by omega)
  rwa [Nat.mul_one] at this
theorem at_mem {l : List Val} {i : Int} (h0 : 0 ≤ i) (h1 : i < (l.length : Int)) : ∃ x, atI l i = some x ∧ x ∈ l :=
  have h : i.toNat < l.length := by omega
  ⟨l[i.toNat], at_eq h0 (List.getElem?_eq_getElem h), List.getElem_mem h⟩
theorem bent_row_ok {p : Nat} {r : List Int × List Int} {n : Int} {st : Store} (hp : Pen p st) (hr : RowK n r) : ∃ x st', F_law_bent_row [.ref p, rowV r] st = .ok x st' ∧ Dt 36 5 x ∧ Pd p st st' := by
  obtain ⟨k, s1, e1, a1, b1, p1⟩ := draw_pen (m := 6) hp (by decide)
  obtain ⟨j, s2, e2, a2, b2, p2⟩ := draw_pen (m := 7) p1.pen (by decide)
  have p12 := p1.trans p2
  have hk : k = 0 ∨ k = 1 ∨ k = 2 ∨ k = 3 ∨ k = 4 ∨ k = 5 := by omega
  have h1 := hr.lot; have h2 := hr.off
  have i1 : Is (iL r.1) := Is.ints fun x hx => by have := hr.lotb x hx; omega
  have i2 : Is (iL r.2) := Is.ints fun x hx => by have := hr.offb x hx; omega
  have D1 : Dt 5 1 (.tup (iL r.1)) := (i1.dts (k := 4) (by rw [List.length_map]; omega)).tup
  have D2 : Dt 8 1 (.tup (iL r.2)) := (i2.dts (k := 7) (by rw [List.length_map]; omega)).tup
  have D1r : Dt 5 1 (.ro (iL r.1)) := (i1.dts (k := 4) (by rw [List.length_map]; omega)).ro
  have D2r : Dt 8 1 (.ro (iL r.2)) := (i2.dts (k := 7) (by rw [List.length_map]; omega)).ro
  have two : ∀ {x y : Val} {c d a b : Nat}, Dt c a x → Dt d b y → c + d ≤ 34 → a ≤ 3 → b ≤ 3 → Dt 35 4 (.tup [x, y]) := fun hx hy h1 h2 h3 => (Dts.cons hx (Dts.cons hy Dts.nil)).tup.up (by omega) (by omega)
  unfold F_law_bent_row rowV
  rcases hk with rfl | rfl | rfl | rfl | rfl | rfl
  · simp (disch := walk_at "dz") only [seval, Int.reduceToNat, Nat.reduceAdd, Nat.reduceSub, Nat.reduceMul, Nat.reduceLT, Nat.reduceLeDiff, Nat.reduceEqDiff, Nat.reduceBEq, Nat.reduceMod, Nat.reduceDiv, Int.reduceAdd, Int.reduceSub, Int.reduceMul, Int.reduceNeg, Int.reduceLT, Int.reduceLE, Int.reduceEq, Int.reduceBEq, Int.reduceBNe, Int.reduceMod, Int.reduceDiv, Int.cast_ofNat_Int, r_law_fresh_0, r_law_fresh_1, r_law_fresh_2, t_law_fresh, r_law_draw_0, t_law_draw, r_law_bent_row_0, r_law_bent_row_1, r_law_bent_row_2, r_law_bent_row_3, r_law_bent_row_4, t_law_bent_row, r_law_bent_cover_0, r_law_bent_cover_1, r_law_bent_cover_2, r_law_bent_cover_3, t_law_bent_cover, r_law_bent_0, r_law_bent_1, r_law_bent_2, r_law_bent_3, r_law_bent_4, t_law_bent, t_law_coins, t_law_companies, t_law_company, t_law_pen, r_law_piece_0, t_law_piece, t_law_pieces, t_law_number, r_law_same_0, r_law_same_1, r_law_same_2, r_law_same_3, r_law_same_4, r_law_same_5, r_law_same_6, t_law_same, t_is_number, r_is_same_0, r_is_same_1, r_is_same_2, t_is_same, r_turned_0, t_turned, r_with_nought_0, t_with_nought, r_worth_0, t_worth, r_through_0, r_through_1, t_through, t_curve_of, r_lots_of_0, r_lots_of_1, t_lots_of, t_off_hands, r_mended_0, r_mended_1, t_mended, t_is_mended, r_law_0, r_law_1, r_law_2, t_law, e1]
    have D : Dt 8 1 (.tup (List.map Val.int r.2.reverse)) := ((Is.ints (l := r.2.reverse) fun x hx => by have := hr.offb x (List.mem_reverse.mp hx); omega).dts (k := 7) (by rw [List.length_map, List.length_reverse]; omega)).tup
    exact ⟨_, _, rfl, (two D1 D (by decide) (by decide) (by decide)).up (by decide) (by decide), p1⟩
  · simp (disch := walk_at "dz") only [seval, Int.reduceToNat, Nat.reduceAdd, Nat.reduceSub, Nat.reduceMul, Nat.reduceLT, Nat.reduceLeDiff, Nat.reduceEqDiff, Nat.reduceBEq, Nat.reduceMod, Nat.reduceDiv, Int.reduceAdd, Int.reduceSub, Int.reduceMul, Int.reduceNeg, Int.reduceLT, Int.reduceLE, Int.reduceEq, Int.reduceBEq, Int.reduceBNe, Int.reduceMod, Int.reduceDiv, Int.cast_ofNat_Int, r_law_fresh_0, r_law_fresh_1, r_law_fresh_2, t_law_fresh, r_law_draw_0, t_law_draw, r_law_bent_row_0, r_law_bent_row_1, r_law_bent_row_2, r_law_bent_row_3, r_law_bent_row_4, t_law_bent_row, r_law_bent_cover_0, r_law_bent_cover_1, r_law_bent_cover_2, r_law_bent_cover_3, t_law_bent_cover, r_law_bent_0, r_law_bent_1, r_law_bent_2, r_law_bent_3, r_law_bent_4, t_law_bent, t_law_coins, t_law_companies, t_law_company, t_law_pen, r_law_piece_0, t_law_piece, t_law_pieces, t_law_number, r_law_same_0, r_law_same_1, r_law_same_2, r_law_same_3, r_law_same_4, r_law_same_5, r_law_same_6, t_law_same, t_is_number, r_is_same_0, r_is_same_1, r_is_same_2, t_is_same, r_turned_0, t_turned, r_with_nought_0, t_with_nought, r_worth_0, t_worth, r_through_0, r_through_1, t_through, t_curve_of, r_lots_of_0, r_lots_of_1, t_lots_of, t_off_hands, r_mended_0, r_mended_1, t_mended, t_is_mended, r_law_0, r_law_1, r_law_2, t_law, e1]
    have D : Dt 9 1 (.tup (iL r.2 ++ [.int 6])) := ((i2.app Is.six).dts (k := 8) (by rw [List.length_append, List.length_map]; show _ + 1 ≤ 8; omega)).tup
    exact ⟨_, _, rfl, (two D1 D (by decide) (by decide) (by decide)).up (by decide) (by decide), p1⟩
  · simp (disch := walk_at "dz") only [seval, Int.reduceToNat, Nat.reduceAdd, Nat.reduceSub, Nat.reduceMul, Nat.reduceLT, Nat.reduceLeDiff, Nat.reduceEqDiff, Nat.reduceBEq, Nat.reduceMod, Nat.reduceDiv, Int.reduceAdd, Int.reduceSub, Int.reduceMul, Int.reduceNeg, Int.reduceLT, Int.reduceLE, Int.reduceEq, Int.reduceBEq, Int.reduceBNe, Int.reduceMod, Int.reduceDiv, Int.cast_ofNat_Int, r_law_fresh_0, r_law_fresh_1, r_law_fresh_2, t_law_fresh, r_law_draw_0, t_law_draw, r_law_bent_row_0, r_law_bent_row_1, r_law_bent_row_2, r_law_bent_row_3, r_law_bent_row_4, t_law_bent_row, r_law_bent_cover_0, r_law_bent_cover_1, r_law_bent_cover_2, r_law_bent_cover_3, t_law_bent_cover, r_law_bent_0, r_law_bent_1, r_law_bent_2, r_law_bent_3, r_law_bent_4, t_law_bent, t_law_coins, t_law_companies, t_law_company, t_law_pen, r_law_piece_0, t_law_piece, t_law_pieces, t_law_number, r_law_same_0, r_law_same_1, r_law_same_2, r_law_same_3, r_law_same_4, r_law_same_5, r_law_same_6, t_law_same, t_is_number, r_is_same_0, r_is_same_1, r_is_same_2, t_is_same, r_turned_0, t_turned, r_with_nought_0, t_with_nought, r_worth_0, t_worth, r_through_0, r_through_1, t_through, t_curve_of, r_lots_of_0, r_lots_of_1, t_lots_of, t_off_hands, r_mended_0, r_mended_1, t_mended, t_is_mended, r_law_0, r_law_1, r_law_2, t_law, e1]
    exact ⟨_, _, rfl, (two D1r D2 (by decide) (by decide) (by decide)).up (by decide) (by decide), p1⟩
  · simp (disch := walk_at "dz") only [seval, Int.reduceToNat, Nat.reduceAdd, Nat.reduceSub, Nat.reduceMul, Nat.reduceLT, Nat.reduceLeDiff, Nat.reduceEqDiff, Nat.reduceBEq, Nat.reduceMod, Nat.reduceDiv, Int.reduceAdd, Int.reduceSub, Int.reduceMul, Int.reduceNeg, Int.reduceLT, Int.reduceLE, Int.reduceEq, Int.reduceBEq, Int.reduceBNe, Int.reduceMod, Int.reduceDiv, Int.cast_ofNat_Int, r_law_fresh_0, r_law_fresh_1, r_law_fresh_2, t_law_fresh, r_law_draw_0, t_law_draw, r_law_bent_row_0, r_law_bent_row_1, r_law_bent_row_2, r_law_bent_row_3, r_law_bent_row_4, t_law_bent_row, r_law_bent_cover_0, r_law_bent_cover_1, r_law_bent_cover_2, r_law_bent_cover_3, t_law_bent_cover, r_law_bent_0, r_law_bent_1, r_law_bent_2, r_law_bent_3, r_law_bent_4, t_law_bent, t_law_coins, t_law_companies, t_law_company, t_law_pen, r_law_piece_0, t_law_piece, t_law_pieces, t_law_number, r_law_same_0, r_law_same_1, r_law_same_2, r_law_same_3, r_law_same_4, r_law_same_5, r_law_same_6, t_law_same, t_is_number, r_is_same_0, r_is_same_1, r_is_same_2, t_is_same, r_turned_0, t_turned, r_with_nought_0, t_with_nought, r_worth_0, t_worth, r_through_0, r_through_1, t_through, t_curve_of, r_lots_of_0, r_lots_of_1, t_lots_of, t_off_hands, r_mended_0, r_mended_1, t_mended, t_is_mended, r_law_0, r_law_1, r_law_2, t_law, e1]
    exact ⟨_, _, rfl, (two D1 D2r (by decide) (by decide) (by decide)).up (by decide) (by decide), p1⟩
  · simp (disch := walk_at "dz") only [seval, Int.reduceToNat, Nat.reduceAdd, Nat.reduceSub, Nat.reduceMul, Nat.reduceLT, Nat.reduceLeDiff, Nat.reduceEqDiff, Nat.reduceBEq, Nat.reduceMod, Nat.reduceDiv, Int.reduceAdd, Int.reduceSub, Int.reduceMul, Int.reduceNeg, Int.reduceLT, Int.reduceLE, Int.reduceEq, Int.reduceBEq, Int.reduceBNe, Int.reduceMod, Int.reduceDiv, Int.cast_ofNat_Int, r_law_fresh_0, r_law_fresh_1, r_law_fresh_2, t_law_fresh, r_law_draw_0, t_law_draw, r_law_bent_row_0, r_law_bent_row_1, r_law_bent_row_2, r_law_bent_row_3, r_law_bent_row_4, t_law_bent_row, r_law_bent_cover_0, r_law_bent_cover_1, r_law_bent_cover_2, r_law_bent_cover_3, t_law_bent_cover, r_law_bent_0, r_law_bent_1, r_law_bent_2, r_law_bent_3, r_law_bent_4, t_law_bent, t_law_coins, t_law_companies, t_law_company, t_law_pen, r_law_piece_0, t_law_piece, t_law_pieces, t_law_number, r_law_same_0, r_law_same_1, r_law_same_2, r_law_same_3, r_law_same_4, r_law_same_5, r_law_same_6, t_law_same, t_is_number, r_is_same_0, r_is_same_1, r_is_same_2, t_is_same, r_turned_0, t_turned, r_with_nought_0, t_with_nought, r_worth_0, t_worth, r_through_0, r_through_1, t_through, t_curve_of, r_lots_of_0, r_lots_of_1, t_lots_of, t_off_hands, r_mended_0, r_mended_1, t_mended, t_is_mended, r_law_0, r_law_1, r_law_2, t_law, e1]
    have D : Dt 6 1 (.tup (List.map Val.int (List.drop 1 r.1) ++ [.int 6])) := (((Is.ints (l := List.drop 1 r.1) fun x hx => by have := hr.lotb x (List.mem_of_mem_drop hx); omega).app Is.six).dts (k := 5) (by rw [List.length_append, List.length_map, List.length_drop]; show _ + 1 ≤ 5; omega)).tup
    exact ⟨_, _, rfl, (two D D2 (by decide) (by decide) (by decide)).up (by decide) (by decide), p1⟩
  · have c1 : ∀ ρ0 ρ2 ρ3 ρ4, lcl (fun _ => some (iL r.2)) (gN 6) FL.tYes (eOp (fEq false) (eV 6) (eC (Val.int 1))) [ρ0, ρ2, ρ3, ρ4, some (Val.int 5), none, none] bigN 0 [] s1 = some (r.2.map fun x => Val.bl (decide (x = 1)), s1) := fun ρ0 ρ2 ρ3 ρ4 => by
      refine lcl_mp r.2 Val.int (fun x => Val.bl (decide (x = 1))) rfl (by omega) fun x _ => ?_
      walk_at "ev"
    have D3 : Dt 8 1 (.tup (r.2.map fun x => Val.bl (decide (x = 1)))) := by
      have := Dts.all (c := 1) (p := 0) (k := 7) (xs := r.2.map fun x => Val.bl (decide (x = 1))) (by rw [List.length_map]; exact h2) fun x hx => by
        obtain ⟨y, _, rfl⟩ := List.mem_map.mp hx
        exact Dt.bl
      exact this.tup
    have hL : ∀ x ∈ ([.tup [.tup (iL r.1), .tup (iL r.2)], .tup [.tup (iL r.1)], .tup [.tup (iL r.1), .tup (iL r.2), .int 0], .tup [.tup (iL r.2), .tup (iL r.1)], .tup [.tup (iL r.1), .tup (r.2.map fun x => Val.bl (decide (x = 1)))], .ro [.tup (iL r.1), .tup (iL r.2)], .ro [.tup [.tup (iL r.1), .tup (iL r.2)]]] : List Val), Dt 36 5 x := fun x hx => by
      simp only [List.mem_cons, List.not_mem_nil, or_false] at hx
      rcases hx with rfl | rfl | rfl | rfl | rfl | rfl | rfl
      · exact (two D1 D2 (by decide) (by decide) (by decide)).up (by decide) (by decide)
      · exact (Dts.cons D1 Dts.nil).tup.up (by decide) (by decide)
      · exact (Dts.cons D1 (Dts.cons D2 (Dts.cons (Dt.int (by decide)) Dts.nil))).tup.up (by decide) (by decide)
      · exact (two D2 D1 (by decide) (by decide) (by decide)).up (by decide) (by decide)
      · exact (two D1 D3 (by decide) (by decide) (by decide)).up (by decide) (by decide)
      · exact (Dts.cons D1 (Dts.cons D2 Dts.nil)).ro.up (by decide) (by decide)
      · exact (Dts.cons (two D1 D2 (by decide) (by decide) (by decide)) Dts.nil).ro.up (by decide) (by decide)
    obtain ⟨x, hx, hm⟩ := at_mem (l := ([.tup [.tup (iL r.1), .tup (iL r.2)], .tup [.tup (iL r.1)], .tup [.tup (iL r.1), .tup (iL r.2), .int 0], .tup [.tup (iL r.2), .tup (iL r.1)], .tup [.tup (iL r.1), .tup (r.2.map fun x => Val.bl (decide (x = 1)))], .ro [.tup (iL r.1), .tup (iL r.2)], .ro [.tup [.tup (iL r.1), .tup (iL r.2)]]] : List Val)) a2 (by show j < 7; exact b2)
    simp (disch := walk_at "dz") only [seval, Int.reduceToNat, Nat.reduceAdd, Nat.reduceSub, Nat.reduceMul, Nat.reduceLT, Nat.reduceLeDiff, Nat.reduceEqDiff, Nat.reduceBEq, Nat.reduceMod, Nat.reduceDiv, Int.reduceAdd, Int.reduceSub, Int.reduceMul, Int.reduceNeg, Int.reduceLT, Int.reduceLE, Int.reduceEq, Int.reduceBEq, Int.reduceBNe, Int.reduceMod, Int.reduceDiv, Int.cast_ofNat_Int, r_law_fresh_0, r_law_fresh_1, r_law_fresh_2, t_law_fresh, r_law_draw_0, t_law_draw, r_law_bent_row_0, r_law_bent_row_1, r_law_bent_row_2, r_law_bent_row_3, r_law_bent_row_4, t_law_bent_row, r_law_bent_cover_0, r_law_bent_cover_1, r_law_bent_cover_2, r_law_bent_cover_3, t_law_bent_cover, r_law_bent_0, r_law_bent_1, r_law_bent_2, r_law_bent_3, r_law_bent_4, t_law_bent, t_law_coins, t_law_companies, t_law_company, t_law_pen, r_law_piece_0, t_law_piece, t_law_pieces, t_law_number, r_law_same_0, r_law_same_1, r_law_same_2, r_law_same_3, r_law_same_4, r_law_same_5, r_law_same_6, t_law_same, t_is_number, r_is_same_0, r_is_same_1, r_is_same_2, t_is_same, r_turned_0, t_turned, r_with_nought_0, t_with_nought, r_worth_0, t_worth, r_through_0, r_through_1, t_through, t_curve_of, r_lots_of_0, r_lots_of_1, t_lots_of, t_off_hands, r_mended_0, r_mended_1, t_mended, t_is_mended, r_law_0, r_law_1, r_law_2, t_law, e1, e2, c1, hx]
    exact ⟨x, s2, rfl, hL x hm, p12⟩
theorem row_dt {n : Int} {r : List Int × List Int} (hr : RowK n r) : Dt 36 5 (rowV r) := by
  have h1 := hr.lot; have h2 := hr.off
  have i1 : Is (iL r.1) := Is.ints fun x hx => by have := hr.lotb x hx; omega
  have i2 : Is (iL r.2) := Is.ints fun x hx => by have := hr.offb x hx; omega
  have D1 : Dt 5 1 (.tup (iL r.1)) := (i1.dts (k := 4) (by rw [List.length_map]; omega)).tup
  have D2 : Dt 8 1 (.tup (iL r.2)) := (i2.dts (k := 7) (by rw [List.length_map]; omega)).tup
  exact (Dts.cons D1 (Dts.cons D2 Dts.nil)).tup.up (by decide) (by decide)
theorem bent_cover_ok {p : Nat} {rows : List (List Int × List Int)} {n : Int} {st : Store} (hp : Pen p st) (h1 : 1 ≤ rows.length) (h2 : rows.length ≤ 10) (hr : ∀ r ∈ rows, RowK n r) : ∃ x st', F_law_bent_cover [.ref p, .ro (rows.map rowV)] st = .ok x st' ∧ Dt 400 6 x ∧ Pd p st st' := by
  obtain ⟨a, s1, e1, a1, b1, p1⟩ := draw_pen (m := (rows.length : Int)) hp (by omega)
  obtain ⟨k, s2, e2, a2, b2, p2⟩ := draw_pen (m := 6) p1.pen (by decide)
  have p12 := p1.trans p2
  obtain ⟨r, hra⟩ : ∃ r, rows[a.toNat]? = some r := ⟨_, List.getElem?_eq_getElem (show a.toNat < rows.length by omega)⟩
  have hat : atI (rows.map rowV) a = some (rowV r) := at_eq a1 (by rw [List.getElem?_map, hra]; rfl)
  obtain ⟨y, s3, e3, hy, p3⟩ := bent_row_ok p2.pen (hr r (List.mem_of_getElem? hra))
  have p13 := p12.trans p3
  have hR : ∀ x ∈ rows.map rowV, Dt 36 5 x := fun x hx => by
    obtain ⟨r, hr', rfl⟩ := List.mem_map.mp hx
    exact row_dt (hr r hr')
  have key : ∀ xs : List Val, xs.length ≤ 11 → (∀ x ∈ xs, x ∈ rows.map rowV ∨ x = y) → Dt 400 6 (.ro xs) ∧ Dt 400 6 (.tup xs) := fun xs hl hx => by
    have h := Dts.all (c := 36) (p := 5) hl fun x hm => (hx x hm).elim (hR x) fun e => by rw [e]; exact hy
    exact ⟨h.ro.up (by decide) (by decide), h.tup.up (by decide) (by decide)⟩
  have hk : k = 0 ∨ k = 1 ∨ k = 2 ∨ k = 3 ∨ k = 4 ∨ k = 5 := by omega
  have hml : (rows.map rowV).length = rows.length := by rw [List.length_map]
  generalize rows.map rowV = R at *
  rw [← hml] at e1 b1 h1 h2
  have bent : Dt 400 6 (.ro (R.take a.toNat ++ [y] ++ R.drop (a + 1).toNat)) := (key _ (by simp only [List.length_append, List.length_take, List.length_drop, List.length_cons, List.length_nil]; omega) fun x hx => by
    rcases List.mem_append.mp hx with hx | hx
    · rcases List.mem_append.mp hx with hx | hx
      · exact .inl (List.mem_of_mem_take hx)
      · exact .inr (List.mem_singleton.mp hx)
    · exact .inl (List.mem_of_mem_drop hx)).1
  unfold F_law_bent_cover
  rcases hk with rfl | rfl | rfl | rfl | rfl | rfl
  · simp (disch := walk_at "dz") only [seval, Int.reduceToNat, Nat.reduceAdd, Nat.reduceSub, Nat.reduceMul, Nat.reduceLT, Nat.reduceLeDiff, Nat.reduceEqDiff, Nat.reduceBEq, Nat.reduceMod, Nat.reduceDiv, Int.reduceAdd, Int.reduceSub, Int.reduceMul, Int.reduceNeg, Int.reduceLT, Int.reduceLE, Int.reduceEq, Int.reduceBEq, Int.reduceBNe, Int.reduceMod, Int.reduceDiv, Int.cast_ofNat_Int, r_law_fresh_0, r_law_fresh_1, r_law_fresh_2, t_law_fresh, r_law_draw_0, t_law_draw, r_law_bent_row_0, r_law_bent_row_1, r_law_bent_row_2, r_law_bent_row_3, r_law_bent_row_4, t_law_bent_row, r_law_bent_cover_0, r_law_bent_cover_1, r_law_bent_cover_2, r_law_bent_cover_3, t_law_bent_cover, r_law_bent_0, r_law_bent_1, r_law_bent_2, r_law_bent_3, r_law_bent_4, t_law_bent, t_law_coins, t_law_companies, t_law_company, t_law_pen, r_law_piece_0, t_law_piece, t_law_pieces, t_law_number, r_law_same_0, r_law_same_1, r_law_same_2, r_law_same_3, r_law_same_4, r_law_same_5, r_law_same_6, t_law_same, t_is_number, r_is_same_0, r_is_same_1, r_is_same_2, t_is_same, r_turned_0, t_turned, r_with_nought_0, t_with_nought, r_worth_0, t_worth, r_through_0, r_through_1, t_through, t_curve_of, r_lots_of_0, r_lots_of_1, t_lots_of, t_off_hands, r_mended_0, r_mended_1, t_mended, t_is_mended, r_law_0, r_law_1, r_law_2, t_law, e1, e2]
    exact ⟨_, _, rfl, (key _ (by simp only [List.length_append, List.length_take, List.length_drop]; omega) fun x hx => .inl ((List.mem_append.mp hx).elim List.mem_of_mem_take List.mem_of_mem_drop)).1, p12⟩
  · simp (disch := walk_at "dz") only [seval, Int.reduceToNat, Nat.reduceAdd, Nat.reduceSub, Nat.reduceMul, Nat.reduceLT, Nat.reduceLeDiff, Nat.reduceEqDiff, Nat.reduceBEq, Nat.reduceMod, Nat.reduceDiv, Int.reduceAdd, Int.reduceSub, Int.reduceMul, Int.reduceNeg, Int.reduceLT, Int.reduceLE, Int.reduceEq, Int.reduceBEq, Int.reduceBNe, Int.reduceMod, Int.reduceDiv, Int.cast_ofNat_Int, r_law_fresh_0, r_law_fresh_1, r_law_fresh_2, t_law_fresh, r_law_draw_0, t_law_draw, r_law_bent_row_0, r_law_bent_row_1, r_law_bent_row_2, r_law_bent_row_3, r_law_bent_row_4, t_law_bent_row, r_law_bent_cover_0, r_law_bent_cover_1, r_law_bent_cover_2, r_law_bent_cover_3, t_law_bent_cover, r_law_bent_0, r_law_bent_1, r_law_bent_2, r_law_bent_3, r_law_bent_4, t_law_bent, t_law_coins, t_law_companies, t_law_company, t_law_pen, r_law_piece_0, t_law_piece, t_law_pieces, t_law_number, r_law_same_0, r_law_same_1, r_law_same_2, r_law_same_3, r_law_same_4, r_law_same_5, r_law_same_6, t_law_same, t_is_number, r_is_same_0, r_is_same_1, r_is_same_2, t_is_same, r_turned_0, t_turned, r_with_nought_0, t_with_nought, r_worth_0, t_worth, r_through_0, r_through_1, t_through, t_curve_of, r_lots_of_0, r_lots_of_1, t_lots_of, t_off_hands, r_mended_0, r_mended_1, t_mended, t_is_mended, r_law_0, r_law_1, r_law_2, t_law, e1, e2]
    exact ⟨_, _, rfl, (key _ (by simp only [List.length_append, List.length_take, List.length_drop]; omega) fun x hx => .inl ((List.mem_append.mp hx).elim List.mem_of_mem_take List.mem_of_mem_drop)).1, p12⟩
  · simp (disch := walk_at "dz") only [seval, Int.reduceToNat, Nat.reduceAdd, Nat.reduceSub, Nat.reduceMul, Nat.reduceLT, Nat.reduceLeDiff, Nat.reduceEqDiff, Nat.reduceBEq, Nat.reduceMod, Nat.reduceDiv, Int.reduceAdd, Int.reduceSub, Int.reduceMul, Int.reduceNeg, Int.reduceLT, Int.reduceLE, Int.reduceEq, Int.reduceBEq, Int.reduceBNe, Int.reduceMod, Int.reduceDiv, Int.cast_ofNat_Int, r_law_fresh_0, r_law_fresh_1, r_law_fresh_2, t_law_fresh, r_law_draw_0, t_law_draw, r_law_bent_row_0, r_law_bent_row_1, r_law_bent_row_2, r_law_bent_row_3, r_law_bent_row_4, t_law_bent_row, r_law_bent_cover_0, r_law_bent_cover_1, r_law_bent_cover_2, r_law_bent_cover_3, t_law_bent_cover, r_law_bent_0, r_law_bent_1, r_law_bent_2, r_law_bent_3, r_law_bent_4, t_law_bent, t_law_coins, t_law_companies, t_law_company, t_law_pen, r_law_piece_0, t_law_piece, t_law_pieces, t_law_number, r_law_same_0, r_law_same_1, r_law_same_2, r_law_same_3, r_law_same_4, r_law_same_5, r_law_same_6, t_law_same, t_is_number, r_is_same_0, r_is_same_1, r_is_same_2, t_is_same, r_turned_0, t_turned, r_with_nought_0, t_with_nought, r_worth_0, t_worth, r_through_0, r_through_1, t_through, t_curve_of, r_lots_of_0, r_lots_of_1, t_lots_of, t_off_hands, r_mended_0, r_mended_1, t_mended, t_is_mended, r_law_0, r_law_1, r_law_2, t_law, e1, e2]
    exact ⟨_, _, rfl, (key _ (by rw [List.length_reverse]; omega) fun x hx => .inl (List.mem_reverse.mp hx)).1, p12⟩
  · simp (disch := walk_at "dz") only [seval, Int.reduceToNat, Nat.reduceAdd, Nat.reduceSub, Nat.reduceMul, Nat.reduceLT, Nat.reduceLeDiff, Nat.reduceEqDiff, Nat.reduceBEq, Nat.reduceMod, Nat.reduceDiv, Int.reduceAdd, Int.reduceSub, Int.reduceMul, Int.reduceNeg, Int.reduceLT, Int.reduceLE, Int.reduceEq, Int.reduceBEq, Int.reduceBNe, Int.reduceMod, Int.reduceDiv, Int.cast_ofNat_Int, r_law_fresh_0, r_law_fresh_1, r_law_fresh_2, t_law_fresh, r_law_draw_0, t_law_draw, r_law_bent_row_0, r_law_bent_row_1, r_law_bent_row_2, r_law_bent_row_3, r_law_bent_row_4, t_law_bent_row, r_law_bent_cover_0, r_law_bent_cover_1, r_law_bent_cover_2, r_law_bent_cover_3, t_law_bent_cover, r_law_bent_0, r_law_bent_1, r_law_bent_2, r_law_bent_3, r_law_bent_4, t_law_bent, t_law_coins, t_law_companies, t_law_company, t_law_pen, r_law_piece_0, t_law_piece, t_law_pieces, t_law_number, r_law_same_0, r_law_same_1, r_law_same_2, r_law_same_3, r_law_same_4, r_law_same_5, r_law_same_6, t_law_same, t_is_number, r_is_same_0, r_is_same_1, r_is_same_2, t_is_same, r_turned_0, t_turned, r_with_nought_0, t_with_nought, r_worth_0, t_worth, r_through_0, r_through_1, t_through, t_curve_of, r_lots_of_0, r_lots_of_1, t_lots_of, t_off_hands, r_mended_0, r_mended_1, t_mended, t_is_mended, r_law_0, r_law_1, r_law_2, t_law, e1, e2]
    exact ⟨_, _, rfl, (key _ (by omega) fun x hx => .inl hx).2, p12⟩
  · simp (disch := walk_at "dz") only [seval, Int.reduceToNat, Nat.reduceAdd, Nat.reduceSub, Nat.reduceMul, Nat.reduceLT, Nat.reduceLeDiff, Nat.reduceEqDiff, Nat.reduceBEq, Nat.reduceMod, Nat.reduceDiv, Int.reduceAdd, Int.reduceSub, Int.reduceMul, Int.reduceNeg, Int.reduceLT, Int.reduceLE, Int.reduceEq, Int.reduceBEq, Int.reduceBNe, Int.reduceMod, Int.reduceDiv, Int.cast_ofNat_Int, r_law_fresh_0, r_law_fresh_1, r_law_fresh_2, t_law_fresh, r_law_draw_0, t_law_draw, r_law_bent_row_0, r_law_bent_row_1, r_law_bent_row_2, r_law_bent_row_3, r_law_bent_row_4, t_law_bent_row, r_law_bent_cover_0, r_law_bent_cover_1, r_law_bent_cover_2, r_law_bent_cover_3, t_law_bent_cover, r_law_bent_0, r_law_bent_1, r_law_bent_2, r_law_bent_3, r_law_bent_4, t_law_bent, t_law_coins, t_law_companies, t_law_company, t_law_pen, r_law_piece_0, t_law_piece, t_law_pieces, t_law_number, r_law_same_0, r_law_same_1, r_law_same_2, r_law_same_3, r_law_same_4, r_law_same_5, r_law_same_6, t_law_same, t_is_number, r_is_same_0, r_is_same_1, r_is_same_2, t_is_same, r_turned_0, t_turned, r_with_nought_0, t_with_nought, r_worth_0, t_worth, r_through_0, r_through_1, t_through, t_curve_of, r_lots_of_0, r_lots_of_1, t_lots_of, t_off_hands, r_mended_0, r_mended_1, t_mended, t_is_mended, r_law_0, r_law_1, r_law_2, t_law, e1, e2, e3, hat]
    exact ⟨_, _, rfl, bent, p13⟩
  · simp (disch := walk_at "dz") only [seval, Int.reduceToNat, Nat.reduceAdd, Nat.reduceSub, Nat.reduceMul, Nat.reduceLT, Nat.reduceLeDiff, Nat.reduceEqDiff, Nat.reduceBEq, Nat.reduceMod, Nat.reduceDiv, Int.reduceAdd, Int.reduceSub, Int.reduceMul, Int.reduceNeg, Int.reduceLT, Int.reduceLE, Int.reduceEq, Int.reduceBEq, Int.reduceBNe, Int.reduceMod, Int.reduceDiv, Int.cast_ofNat_Int, r_law_fresh_0, r_law_fresh_1, r_law_fresh_2, t_law_fresh, r_law_draw_0, t_law_draw, r_law_bent_row_0, r_law_bent_row_1, r_law_bent_row_2, r_law_bent_row_3, r_law_bent_row_4, t_law_bent_row, r_law_bent_cover_0, r_law_bent_cover_1, r_law_bent_cover_2, r_law_bent_cover_3, t_law_bent_cover, r_law_bent_0, r_law_bent_1, r_law_bent_2, r_law_bent_3, r_law_bent_4, t_law_bent, t_law_coins, t_law_companies, t_law_company, t_law_pen, r_law_piece_0, t_law_piece, t_law_pieces, t_law_number, r_law_same_0, r_law_same_1, r_law_same_2, r_law_same_3, r_law_same_4, r_law_same_5, r_law_same_6, t_law_same, t_is_number, r_is_same_0, r_is_same_1, r_is_same_2, t_is_same, r_turned_0, t_turned, r_with_nought_0, t_with_nought, r_worth_0, t_worth, r_through_0, r_through_1, t_through, t_curve_of, r_lots_of_0, r_lots_of_1, t_lots_of, t_off_hands, r_mended_0, r_mended_1, t_mended, t_is_mended, r_law_0, r_law_1, r_law_2, t_law, e1, e2, e3, hat]
    exact ⟨_, _, rfl, bent, p13⟩
theorem nice_number : FL.nice (.str "number") = true := by decide +kernel
theorem nice_none : FL.nice (.str "none") = true := by decide +kernel
theorem nice_upN : FL.nice (.str (Txt.upper "number")) = true := by decide +kernel
theorem nice_upO : FL.nice (.str (Txt.upper "none")) = true := by decide +kernel
theorem upN {st : Store} : kUpper (.str "number") st = .ok (.str (Txt.upper "number")) st := kUpper_eq (by decide +kernel)
theorem upO {st : Store} : kUpper (.str "none") st = .ok (.str (Txt.upper "none")) st := kUpper_eq (by decide +kernel)
def odds : List Val := [.non, .bl true, .bl false, .int 0, .str "number", .tup [], .ro [], .rd [] [], .tup [.str "none", .ro []], .tup [.str "number", .int 0, .tup []], .tup [.str "number", .int 1, .tup [.int 0]]]
theorem odds_dt : ∀ x ∈ odds, Dt 6 3 x := fun x hx => by
  simp only [odds, List.mem_cons, List.not_mem_nil, or_false] at hx
  rcases hx with rfl | rfl | rfl | rfl | rfl | rfl | rfl | rfl | rfl | rfl | rfl
  · exact Dt.non.up (by decide) (by decide)
  · exact Dt.bl.up (by decide) (by decide)
  · exact Dt.bl.up (by decide) (by decide)
  · exact (Dt.int (by decide)).up (by decide) (by decide)
  · exact (Dt.str nice_number).up (by decide) (by decide)
  · exact Dts.nil.tup.up (by decide) (by decide)
  · exact Dts.nil.ro.up (by decide) (by decide)
  · exact Dt.emp.up (by decide) (by decide)
  · exact (Dts.cons (Dt.str nice_none) (Dts.cons Dts.nil.ro Dts.nil)).tup.up (by decide) (by decide)
  · exact (Dts.cons (Dt.str nice_number) (Dts.cons (Dt.int (by decide)) (Dts.cons Dts.nil.tup Dts.nil))).tup.up (by decide) (by decide)
  · exact (Dts.cons (Dt.str nice_number) (Dts.cons (Dt.int (by decide)) (Dts.cons (Dts.cons (Dt.int (by decide)) Dts.nil).tup Dts.nil))).tup.up (by decide) (by decide)
theorem bent_num {p : Nat} {q v : Int} {off : List Int} {st : Store} (hp : Pen p st) (hq : 5 ≤ q ∧ q ≤ 31) (hv : 0 ≤ v ∧ v < q) (ho : off.length ≤ 7) (hb : ∀ x ∈ off, 0 ≤ x ∧ x < 10) : ∃ x st', F_law_bent [.ref p, .tup [.str "number", .int v, .tup (iL off)], .int q] st = .ok x st' ∧ Dt 700 12 x ∧ Pd p st st' := by
  obtain ⟨i, s1, e1, a1, b1, p1⟩ := draw_pen (m := 11) hp (by decide)
  obtain ⟨odd, hodd, hom⟩ := at_mem (l := odds) a1 (by show i < 11; exact b1)
  have hO := odds_dt odd hom
  obtain ⟨k, s2, e2, a2, b2, p2⟩ := draw_pen (m := 7) p1.pen (by decide)
  have p12 := p1.trans p2
  obtain ⟨j5, s5, e5, a5, b5, p5⟩ := draw_pen (m := 5) p2.pen (by decide)
  obtain ⟨j3, s3, e3, a3, b3, p3⟩ := draw_pen (m := 3) p2.pen (by decide)
  obtain ⟨j7, s7, e7, a7, b7, p7⟩ := draw_pen (m := 7) p2.pen (by decide)
  have hk : k = 0 ∨ k = 1 ∨ k = 2 ∨ k = 3 ∨ k = 4 ∨ k = 5 ∨ k = 6 := by omega
  have io : Is (iL off) := Is.ints fun x hx => by have := hb x hx; omega
  have Do : Dt 8 1 (.tup (iL off)) := (io.dts (k := 7) (by rw [List.length_map]; omega)).tup
  have Dv : Dt 1 0 (.int v) := Dt.int (by omega)
  have Ds := Dt.str nice_number
  have Dg : Dt 12 2 (.tup [.str "number", .int v, .tup (iL off)]) := (Dts.cons Ds (Dts.cons Dv (Dts.cons Do Dts.nil))).tup.up (by decide) (by decide)
  unfold odds at hodd
  unfold F_law_bent
  rcases hk with rfl | rfl | rfl | hk
  · simp (disch := walk_at "dz") only [seval, Int.reduceToNat, Nat.reduceAdd, Nat.reduceSub, Nat.reduceMul, Nat.reduceLT, Nat.reduceLeDiff, Nat.reduceEqDiff, Nat.reduceBEq, Nat.reduceMod, Nat.reduceDiv, Int.reduceAdd, Int.reduceSub, Int.reduceMul, Int.reduceNeg, Int.reduceLT, Int.reduceLE, Int.reduceEq, Int.reduceBEq, Int.reduceBNe, Int.reduceMod, Int.reduceDiv, Int.cast_ofNat_Int, t_law_bent, e1, e2, hodd]
    exact ⟨_, _, rfl, hO.up (by decide) (by decide), p12⟩
  · obtain ⟨x, hx, hm⟩ := at_mem (l := [Val.ro [.str "number", .int v, .tup (iL off)], .tup [.str "number"], .tup [.str "number", .int v, .tup (iL off), odd], .tup [odd, .int v, .tup (iL off)], .tup [.str "number", odd, .tup (iL off)]]) a5 (by show j5 < 5; exact b5)
    have hX : Dt 700 12 x := by
      simp only [List.mem_cons, List.not_mem_nil, or_false] at hm
      rcases hm with rfl | rfl | rfl | rfl | rfl
      · exact (Dts.cons Ds (Dts.cons Dv (Dts.cons Do Dts.nil))).ro.up (by decide) (by decide)
      · exact (Dts.cons Ds Dts.nil).tup.up (by decide) (by decide)
      · exact (Dts.cons Ds (Dts.cons Dv (Dts.cons Do (Dts.cons hO Dts.nil)))).tup.up (by decide) (by decide)
      · exact (Dts.cons hO (Dts.cons Dv (Dts.cons Do Dts.nil))).tup.up (by decide) (by decide)
      · exact (Dts.cons Ds (Dts.cons hO (Dts.cons Do Dts.nil))).tup.up (by decide) (by decide)
    simp (disch := walk_at "dz") only [seval, Int.reduceToNat, Nat.reduceAdd, Nat.reduceSub, Nat.reduceMul, Nat.reduceLT, Nat.reduceLeDiff, Nat.reduceEqDiff, Nat.reduceBEq, Nat.reduceMod, Nat.reduceDiv, Int.reduceAdd, Int.reduceSub, Int.reduceMul, Int.reduceNeg, Int.reduceLT, Int.reduceLE, Int.reduceEq, Int.reduceBEq, Int.reduceBNe, Int.reduceMod, Int.reduceDiv, Int.cast_ofNat_Int, t_law_bent, r_law_bent_4, e1, e2, hodd, e5, List.take_succ_cons, List.take_zero, List.drop_succ_cons, List.drop_zero, List.drop_nil, hx]
    exact ⟨x, s5, rfl, hX, p12.trans p5⟩
  · obtain ⟨x, hx, hm⟩ := at_mem (l := [Val.str (Txt.upper "number"), .str "none", .str "number"]) a3 (by show j3 < 3; exact b3)
    have hX : Dt 1 0 x := by
      simp only [List.mem_cons, List.not_mem_nil, or_false] at hm
      rcases hm with rfl | rfl | rfl
      · exact Dt.str nice_upN
      · exact Dt.str nice_none
      · exact Dt.str nice_number
    simp (disch := walk_at "dz") only [seval, Int.reduceToNat, Nat.reduceAdd, Nat.reduceSub, Nat.reduceMul, Nat.reduceLT, Nat.reduceLeDiff, Nat.reduceEqDiff, Nat.reduceBEq, Nat.reduceMod, Nat.reduceDiv, Int.reduceAdd, Int.reduceSub, Int.reduceMul, Int.reduceNeg, Int.reduceLT, Int.reduceLE, Int.reduceEq, Int.reduceBEq, Int.reduceBNe, Int.reduceMod, Int.reduceDiv, Int.cast_ofNat_Int, t_law_bent, r_law_bent_4, r_law_bent_3, e1, e2, hodd, e3, upN, List.take_succ_cons, List.take_zero, List.drop_succ_cons, List.drop_zero, List.drop_nil, hx]
    exact ⟨_, s3, rfl, (Dts.cons hX (Dts.cons Dv (Dts.cons Do Dts.nil))).tup.up (by decide) (by decide), p12.trans p3⟩
  · have c1 : ∀ a b c d e f g, lcl (fun _ => some (iL off)) (gN 10) FL.tYes (eOp (fEq false) (eV 10) (eC (Val.int 1))) [a, b, c, d, e, f, g, some (.str "number"), some (.int v), some (.tup (iL off)), none] bigN 0 [] s2 = some (off.map fun x => Val.bl (decide (x = 1)), s2) := fun a b c d e f g => by
      refine lcl_mp off Val.int (fun x => Val.bl (decide (x = 1))) rfl (by omega) fun x _ => ?_
      walk_at "ev"
    have D3 : Dt 8 1 (.tup (off.map fun x => Val.bl (decide (x = 1)))) := by
      have := Dts.all (c := 1) (p := 0) (k := 7) (xs := off.map fun x => Val.bl (decide (x = 1))) (by rw [List.length_map]; exact ho) fun x hx => by
        obtain ⟨y, _, rfl⟩ := List.mem_map.mp hx
        exact Dt.bl
      exact this.tup
    have hne : (Str.ofString "number" = Str.ofString "none") = False := eq_false (by decide +kernel)
    obtain ⟨x7, hx7, hm7⟩ := at_mem (l := [Val.tup (iL off ++ [.int 6]), .tup (List.map Val.int (List.drop 1 off)), .tup (List.map Val.int off.reverse), .ro (iL off), .tup (iL off ++ iL off), .tup [.int 0], .tup (off.map fun x => Val.bl (decide (x = 1)))]) a7 (by show j7 < 7; exact b7)
    have hX7 : Dt 20 2 x7 := by
      simp only [List.mem_cons, List.not_mem_nil, or_false] at hm7
      rcases hm7 with rfl | rfl | rfl | rfl | rfl | rfl | rfl
      · exact ((io.app Is.six).dts (k := 8) (by rw [List.length_append, List.length_map]; show _ + 1 ≤ 8; omega)).tup.up (by decide) (by decide)
      · exact ((Is.ints (l := List.drop 1 off) fun x hx => by have := hb x (List.mem_of_mem_drop hx); omega).dts (k := 7) (by rw [List.length_map, List.length_drop]; omega)).tup.up (by decide) (by decide)
      · exact ((Is.ints (l := off.reverse) fun x hx => by have := hb x (List.mem_reverse.mp hx); omega).dts (k := 7) (by rw [List.length_map, List.length_reverse]; omega)).tup.up (by decide) (by decide)
      · exact (io.dts (k := 7) (by rw [List.length_map]; omega)).ro.up (by decide) (by decide)
      · exact ((io.app io).dts (k := 14) (by rw [List.length_append, List.length_map]; omega)).tup.up (by decide) (by decide)
      · exact (Dts.cons (Dt.int (by decide)) Dts.nil).tup.up (by decide) (by decide)
      · exact D3.up (by decide) (by decide)
    obtain ⟨x5, hx5, hm5⟩ := at_mem (l := [Val.int ((v + 1) % q), .int (v + q), .int (-v), .bl (decide (v = 1)), .tup [.int v]]) a5 (by show j5 < 5; exact b5)
    have hX5 : Dt 20 2 x5 := by
      simp only [List.mem_cons, List.not_mem_nil, or_false] at hm5
      have h1 : 0 ≤ (v + 1) % q ∧ (v + 1) % q < q := ⟨Int.emod_nonneg _ (by omega), Int.emod_lt_of_pos _ (by omega)⟩
      rcases hm5 with rfl | rfl | rfl | rfl | rfl
      · exact (Dt.int (by omega)).up (by decide) (by decide)
      · exact (Dt.int (by omega)).up (by decide) (by decide)
      · exact (Dt.int (by omega)).up (by decide) (by decide)
      · exact Dt.bl.up (by decide) (by decide)
      · exact (Dts.cons Dv Dts.nil).tup.up (by decide) (by decide)
    rcases hk with rfl | rfl | rfl | rfl
    · simp (disch := walk_at "dz") only [seval, Int.reduceToNat, Nat.reduceAdd, Nat.reduceSub, Nat.reduceMul, Nat.reduceLT, Nat.reduceLeDiff, Nat.reduceEqDiff, Nat.reduceBEq, Nat.reduceMod, Nat.reduceDiv, Int.reduceAdd, Int.reduceSub, Int.reduceMul, Int.reduceNeg, Int.reduceLT, Int.reduceLE, Int.reduceEq, Int.reduceBEq, Int.reduceBNe, Int.reduceMod, Int.reduceDiv, Int.cast_ofNat_Int, t_law_bent, r_law_bent_4, r_law_bent_3, r_law_bent_2, r_law_bent_1, e1, e2, hodd, c1, e7, hne, List.take_succ_cons, List.take_zero, List.drop_succ_cons, List.drop_zero, List.drop_nil, hx7]
      exact ⟨_, s7, rfl, (Dts.cons Ds (Dts.cons Dv (Dts.cons hX7 Dts.nil))).tup.up (by decide) (by decide), p12.trans p7⟩
    · simp (disch := walk_at "dz") only [seval, Int.reduceToNat, Nat.reduceAdd, Nat.reduceSub, Nat.reduceMul, Nat.reduceLT, Nat.reduceLeDiff, Nat.reduceEqDiff, Nat.reduceBEq, Nat.reduceMod, Nat.reduceDiv, Int.reduceAdd, Int.reduceSub, Int.reduceMul, Int.reduceNeg, Int.reduceLT, Int.reduceLE, Int.reduceEq, Int.reduceBEq, Int.reduceBNe, Int.reduceMod, Int.reduceDiv, Int.cast_ofNat_Int, t_law_bent, r_law_bent_4, r_law_bent_3, r_law_bent_2, r_law_bent_1, e1, e2, hodd, c1, e7, hne, List.take_succ_cons, List.take_zero, List.drop_succ_cons, List.drop_zero, List.drop_nil, hx7]
      exact ⟨_, s7, rfl, (Dts.cons Ds (Dts.cons Dv (Dts.cons hX7 Dts.nil))).tup.up (by decide) (by decide), p12.trans p7⟩
    · simp (disch := walk_at "dz") only [seval, Int.reduceToNat, Nat.reduceAdd, Nat.reduceSub, Nat.reduceMul, Nat.reduceLT, Nat.reduceLeDiff, Nat.reduceEqDiff, Nat.reduceBEq, Nat.reduceMod, Nat.reduceDiv, Int.reduceAdd, Int.reduceSub, Int.reduceMul, Int.reduceNeg, Int.reduceLT, Int.reduceLE, Int.reduceEq, Int.reduceBEq, Int.reduceBNe, Int.reduceMod, Int.reduceDiv, Int.cast_ofNat_Int, t_law_bent, r_law_bent_4, r_law_bent_3, r_law_bent_2, r_law_bent_1, r_law_bent_0, e1, e2, hodd, e5, hne, List.take_succ_cons, List.take_zero, List.drop_succ_cons, List.drop_zero, List.drop_nil, hx5]
      exact ⟨_, s5, rfl, (Dts.cons Ds (Dts.cons hX5 (Dts.cons Do Dts.nil))).tup.up (by decide) (by decide), p12.trans p5⟩
    · simp (disch := walk_at "dz") only [seval, Int.reduceToNat, Nat.reduceAdd, Nat.reduceSub, Nat.reduceMul, Nat.reduceLT, Nat.reduceLeDiff, Nat.reduceEqDiff, Nat.reduceBEq, Nat.reduceMod, Nat.reduceDiv, Int.reduceAdd, Int.reduceSub, Int.reduceMul, Int.reduceNeg, Int.reduceLT, Int.reduceLE, Int.reduceEq, Int.reduceBEq, Int.reduceBNe, Int.reduceMod, Int.reduceDiv, Int.cast_ofNat_Int, t_law_bent, r_law_bent_4, r_law_bent_3, r_law_bent_2, r_law_bent_1, r_law_bent_0, e1, e2, hodd, e5, hne, List.take_succ_cons, List.take_zero, List.drop_succ_cons, List.drop_zero, List.drop_nil, hx5]
      exact ⟨_, s5, rfl, (Dts.cons Ds (Dts.cons hX5 (Dts.cons Do Dts.nil))).tup.up (by decide) (by decide), p12.trans p5⟩
theorem bent_none {p : Nat} {q n : Int} {rows : List (List Int × List Int)} {st : Store} (hp : Pen p st) (h1 : 1 ≤ rows.length) (h2 : rows.length ≤ 10) (hr : ∀ r ∈ rows, RowK n r) : ∃ x st', F_law_bent [.ref p, .tup [.str "none", .ro (rows.map rowV)], .int q] st = .ok x st' ∧ Dt 700 12 x ∧ Pd p st st' := by
  obtain ⟨i, s1, e1, a1, b1, p1⟩ := draw_pen (m := 11) hp (by decide)
  obtain ⟨odd, hodd, hom⟩ := at_mem (l := odds) a1 (by show i < 11; exact b1)
  have hO := odds_dt odd hom
  obtain ⟨k, s2, e2, a2, b2, p2⟩ := draw_pen (m := 7) p1.pen (by decide)
  have p12 := p1.trans p2
  obtain ⟨j5, s5, e5, a5, b5, p5⟩ := draw_pen (m := 5) p2.pen (by decide)
  obtain ⟨j3, s3, e3, a3, b3, p3⟩ := draw_pen (m := 3) p2.pen (by decide)
  obtain ⟨y, s4, e4, hy, p4⟩ := bent_cover_ok p2.pen h1 h2 hr
  have hk : k = 0 ∨ k = 1 ∨ k = 2 ∨ k = 3 ∨ k = 4 ∨ k = 5 ∨ k = 6 := by omega
  have Dc : Dt 361 6 (.ro (rows.map rowV)) := by
    have := Dts.all (c := 36) (p := 5) (k := 10) (xs := rows.map rowV) (by rw [List.length_map]; exact h2) fun x hx => by
      obtain ⟨r, hr', rfl⟩ := List.mem_map.mp hx
      exact row_dt (hr r hr')
    exact this.ro
  have Ds := Dt.str nice_none
  have hml : (rows.map rowV).length ≤ 10 := by rw [List.length_map]; exact h2
  generalize rows.map rowV = R at *
  unfold odds at hodd
  unfold F_law_bent
  rcases hk with rfl | rfl | rfl | hk
  · simp (disch := walk_at "dz") only [seval, Int.reduceToNat, Nat.reduceAdd, Nat.reduceSub, Nat.reduceMul, Nat.reduceLT, Nat.reduceLeDiff, Nat.reduceEqDiff, Nat.reduceBEq, Nat.reduceMod, Nat.reduceDiv, Int.reduceAdd, Int.reduceSub, Int.reduceMul, Int.reduceNeg, Int.reduceLT, Int.reduceLE, Int.reduceEq, Int.reduceBEq, Int.reduceBNe, Int.reduceMod, Int.reduceDiv, Int.cast_ofNat_Int, t_law_bent, e1, e2, hodd]
    exact ⟨_, _, rfl, hO.up (by decide) (by decide), p12⟩
  · obtain ⟨x, hx, hm⟩ := at_mem (l := [Val.ro [.str "none", .ro R], .tup [.str "none"], .tup [.str "none", .ro R, odd], .tup [odd, .ro R], .tup [.str "none", odd]]) a5 (by show j5 < 5; exact b5)
    have hX : Dt 700 12 x := by
      simp only [List.mem_cons, List.not_mem_nil, or_false] at hm
      rcases hm with rfl | rfl | rfl | rfl | rfl
      · exact (Dts.cons Ds (Dts.cons Dc Dts.nil)).ro.up (by decide) (by decide)
      · exact (Dts.cons Ds Dts.nil).tup.up (by decide) (by decide)
      · exact (Dts.cons Ds (Dts.cons Dc (Dts.cons hO Dts.nil))).tup.up (by decide) (by decide)
      · exact (Dts.cons hO (Dts.cons Dc Dts.nil)).tup.up (by decide) (by decide)
      · exact (Dts.cons Ds (Dts.cons hO Dts.nil)).tup.up (by decide) (by decide)
    simp (disch := walk_at "dz") only [seval, Int.reduceToNat, Nat.reduceAdd, Nat.reduceSub, Nat.reduceMul, Nat.reduceLT, Nat.reduceLeDiff, Nat.reduceEqDiff, Nat.reduceBEq, Nat.reduceMod, Nat.reduceDiv, Int.reduceAdd, Int.reduceSub, Int.reduceMul, Int.reduceNeg, Int.reduceLT, Int.reduceLE, Int.reduceEq, Int.reduceBEq, Int.reduceBNe, Int.reduceMod, Int.reduceDiv, Int.cast_ofNat_Int, t_law_bent, r_law_bent_4, e1, e2, hodd, e5, List.take_succ_cons, List.take_zero, List.take_nil, List.drop_succ_cons, List.drop_zero, List.drop_nil, hx]
    exact ⟨x, s5, rfl, hX, p12.trans p5⟩
  · obtain ⟨x, hx, hm⟩ := at_mem (l := [Val.str (Txt.upper "none"), .str "none", .str "number"]) a3 (by show j3 < 3; exact b3)
    have hX : Dt 1 0 x := by
      simp only [List.mem_cons, List.not_mem_nil, or_false] at hm
      rcases hm with rfl | rfl | rfl
      · exact Dt.str nice_upO
      · exact Dt.str nice_none
      · exact Dt.str nice_number
    simp (disch := walk_at "dz") only [seval, Int.reduceToNat, Nat.reduceAdd, Nat.reduceSub, Nat.reduceMul, Nat.reduceLT, Nat.reduceLeDiff, Nat.reduceEqDiff, Nat.reduceBEq, Nat.reduceMod, Nat.reduceDiv, Int.reduceAdd, Int.reduceSub, Int.reduceMul, Int.reduceNeg, Int.reduceLT, Int.reduceLE, Int.reduceEq, Int.reduceBEq, Int.reduceBNe, Int.reduceMod, Int.reduceDiv, Int.cast_ofNat_Int, t_law_bent, r_law_bent_4, r_law_bent_3, e1, e2, hodd, e3, upO, List.take_succ_cons, List.take_zero, List.drop_succ_cons, List.drop_zero, List.drop_nil, hx]
    exact ⟨_, s3, rfl, (Dts.cons hX (Dts.cons Dc Dts.nil)).tup.up (by decide) (by decide), p12.trans p3⟩
  · have D := (Dts.cons Ds (Dts.cons hy Dts.nil)).tup
    rcases hk with rfl | rfl | rfl | rfl
    · simp (disch := walk_at "dz") only [seval, Int.reduceToNat, Nat.reduceAdd, Nat.reduceSub, Nat.reduceMul, Nat.reduceLT, Nat.reduceLeDiff, Nat.reduceEqDiff, Nat.reduceBEq, Nat.reduceMod, Nat.reduceDiv, Int.reduceAdd, Int.reduceSub, Int.reduceMul, Int.reduceNeg, Int.reduceLT, Int.reduceLE, Int.reduceEq, Int.reduceBEq, Int.reduceBNe, Int.reduceMod, Int.reduceDiv, Int.cast_ofNat_Int, t_law_bent, r_law_bent_4, r_law_bent_3, r_law_bent_2, e1, e2, hodd, e4]
      exact ⟨_, s4, rfl, D.up (by decide) (by decide), p12.trans p4⟩
    · simp (disch := walk_at "dz") only [seval, Int.reduceToNat, Nat.reduceAdd, Nat.reduceSub, Nat.reduceMul, Nat.reduceLT, Nat.reduceLeDiff, Nat.reduceEqDiff, Nat.reduceBEq, Nat.reduceMod, Nat.reduceDiv, Int.reduceAdd, Int.reduceSub, Int.reduceMul, Int.reduceNeg, Int.reduceLT, Int.reduceLE, Int.reduceEq, Int.reduceBEq, Int.reduceBNe, Int.reduceMod, Int.reduceDiv, Int.cast_ofNat_Int, t_law_bent, r_law_bent_4, r_law_bent_3, r_law_bent_2, e1, e2, hodd, e4]
      exact ⟨_, s4, rfl, D.up (by decide) (by decide), p12.trans p4⟩
    · simp (disch := walk_at "dz") only [seval, Int.reduceToNat, Nat.reduceAdd, Nat.reduceSub, Nat.reduceMul, Nat.reduceLT, Nat.reduceLeDiff, Nat.reduceEqDiff, Nat.reduceBEq, Nat.reduceMod, Nat.reduceDiv, Int.reduceAdd, Int.reduceSub, Int.reduceMul, Int.reduceNeg, Int.reduceLT, Int.reduceLE, Int.reduceEq, Int.reduceBEq, Int.reduceBNe, Int.reduceMod, Int.reduceDiv, Int.cast_ofNat_Int, t_law_bent, r_law_bent_4, r_law_bent_3, r_law_bent_2, e1, e2, hodd, e4]
      exact ⟨_, s4, rfl, D.up (by decide) (by decide), p12.trans p4⟩
    · simp (disch := walk_at "dz") only [seval, Int.reduceToNat, Nat.reduceAdd, Nat.reduceSub, Nat.reduceMul, Nat.reduceLT, Nat.reduceLeDiff, Nat.reduceEqDiff, Nat.reduceBEq, Nat.reduceMod, Nat.reduceDiv, Int.reduceAdd, Int.reduceSub, Int.reduceMul, Int.reduceNeg, Int.reduceLT, Int.reduceLE, Int.reduceEq, Int.reduceBEq, Int.reduceBNe, Int.reduceMod, Int.reduceDiv, Int.cast_ofNat_Int, t_law_bent, r_law_bent_4, r_law_bent_3, r_law_bent_2, e1, e2, hodd, e4]
      exact ⟨_, s4, rfl, D.up (by decide) (by decide), p12.trans p4⟩
theorem bent_ok {p : Nat} {q n : Int} {g : Val} {st : Store} (hp : Pen p st) (hq : 5 ≤ q ∧ q ≤ 31) (hg : Mg q n g) : ∃ x st', F_law_bent [.ref p, g, .int q] st = .ok x st' ∧ Dt 700 12 x ∧ Pd p st st' := by
  cases hg with
  | num h1 h2 h3 h4 => exact bent_num hp hq ⟨h1, h2⟩ h3 h4
  | none h1 h2 h3 => exact bent_none hp h1 h2 h3
theorem sure_ints : ∀ {l : List Int}, sures (iL l) = true ∧ dpVs (iL l) = 0
  | [] => ⟨rfl, rfl⟩
  | x :: l => by
    obtain ⟨a, b⟩ := sure_ints (l := l)
    exact ⟨by show (true && sures (iL l)) = true; rw [a]; rfl, by show max 0 (dpVs (iL l)) = 0; rw [b]; rfl⟩
theorem sure_rows : ∀ {l : List (List Int × List Int)}, sures (l.map rowV) = true ∧ dpVs (l.map rowV) ≤ 2
  | [] => ⟨rfl, by decide⟩
  | r :: l => by
    obtain ⟨a, b⟩ := sure_rows (l := l)
    obtain ⟨c, d⟩ := sure_ints (l := r.1)
    obtain ⟨e, f⟩ := sure_ints (l := r.2)
    rw [List.map_cons]
    refine ⟨?_, ?_⟩
    · show (sure (rowV r) && sures (l.map rowV)) = true
      rw [a]
      unfold rowV
      simp [sure, sures, c, e]
    · show max (dpV (rowV r)) (dpVs (l.map rowV)) ≤ 2
      have : dpV (rowV r) ≤ 2 := by
        unfold rowV
        simp [dpV, dpVs, d, f]
      omega
theorem Mg.dt {q n : Int} {g : Val} (hq : q ≤ 31) (hg : Mg q n g) : Dt 700 12 g ∧ sure g = true ∧ dpV g < 6 := by
  cases hg with
  | @num v off h1 h2 h3 h4 =>
    have io : Is (iL off) := Is.ints fun x hx => by have := h4 x hx; omega
    have Do : Dt 8 1 (.tup (iL off)) := (io.dts (k := 7) (by rw [List.length_map]; omega)).tup
    obtain ⟨a, b⟩ := sure_ints (l := off)
    refine ⟨(Dts.cons (Dt.str nice_number) (Dts.cons (Dt.int (by omega)) (Dts.cons Do Dts.nil))).tup.up (by decide) (by decide), ?_, ?_⟩
    · simp [sure, sures, a]
    · simp [dpV, dpVs, b]
  | @none rows h1 h2 h3 =>
    have Dc : Dt 361 6 (.ro (rows.map rowV)) := by
      have := Dts.all (c := 36) (p := 5) (k := 10) (xs := rows.map rowV) (by rw [List.length_map]; exact h2) fun x hx => by
        obtain ⟨r, hr', rfl⟩ := List.mem_map.mp hx
        exact row_dt (h3 r hr')
      exact this.ro
    obtain ⟨a, b⟩ := sure_rows (l := rows)
    refine ⟨(Dts.cons (Dt.str nice_none) (Dts.cons Dc Dts.nil)).tup.up (by decide) (by decide), ?_, ?_⟩
    · simp [sure, sures, a]
    · simp [dpV, dpVs]
      omega
/-- what the law asks of one thing -/
theorem ask_ok {q : Int} {n t : Nat} {pl : List Int} {g x : Val} {st : Store} {a0 a1 a2 a4 a5 a6 a8 a9 a10 a13 a14 : Option Val} (hm : ∀ st, F_mended [coV q (n : Int) (t : Int), .tup (iL pl)] st = .ok g st) (hg : sure g = true ∧ dpV g < 6) (hx : Dt 700 12 x) : b_law_0 [a0, a1, a2, some (coV q (n : Int) (t : Int)), a4, a5, a6, some (.tup (iL pl)), a8, a9, a10, some g, some x, a13, a14] st = .nx [none, a1, none, some (coV q (n : Int) (t : Int)), none, none, none, some (.tup (iL pl)), none, none, none, some g, none, none, none] st := by
  obtain ⟨h1, h2, h3, h4⟩ := hx.ok (by decide) (by decide)
  obtain ⟨s, hs⟩ := h4 st
  have w1 := isame_ok 6 (x := x) (y := g) (st := st) h1 hg.1 h3 hg.2
  have w2 := sameZ_ok 6 (x := x) (y := g) (st := st) h1 (sure_plain hg.1) h3 hg.2
  have w3 : F_is_mended [x, coV q (n : Int) (t : Int), .tup (iL pl)] st = .ok (.bl (smV x g)) st := by
    unfold F_is_mended
    simp (disch := walk_at "dz") only [seval, Int.reduceToNat, Nat.reduceAdd, Nat.reduceSub, Nat.reduceMul, Nat.reduceLT, Nat.reduceLeDiff, Nat.reduceEqDiff, Nat.reduceBEq, Nat.reduceMod, Nat.reduceDiv, Int.reduceAdd, Int.reduceSub, Int.reduceMul, Int.reduceNeg, Int.reduceLT, Int.reduceLE, Int.reduceEq, Int.reduceBEq, Int.reduceBNe, Int.reduceMod, Int.reduceDiv, Int.cast_ofNat_Int, t_is_mended, hm, w1]
  have w4 : F_law_same 6 [.bl (smV x g), .bl (smV x g)] st = .ok (.bl true) st := by
    rw [sameZ_ok 6 rfl rfl rfl (by simp [dpV]), smV_refl rfl]
  unfold b_law_0
  simp (disch := walk_at "dz") only [seval, Int.reduceToNat, Nat.reduceAdd, Nat.reduceSub, Nat.reduceMul, Nat.reduceLT, Nat.reduceLeDiff, Nat.reduceEqDiff, Nat.reduceBEq, Nat.reduceMod, Nat.reduceDiv, Int.reduceAdd, Int.reduceSub, Int.reduceMul, Int.reduceNeg, Int.reduceLT, Int.reduceLE, Int.reduceEq, Int.reduceBEq, Int.reduceBNe, Int.reduceMod, Int.reduceDiv, Int.cast_ofNat_Int, hs, w2, w3, w4]
  done
/-- coins: so many numbers below q -/
theorem coins_ok {p : Nat} {st : Store} {q t : Int} (h : Pen p st) (hq : 0 < q ∧ q < 1000) (ht : 0 ≤ t ∧ t < 1000) : ∃ cs st', F_law_coins [.ref p, .int q, .int t] st = .ok (.tup (iL cs)) st' ∧ cs.length = t.toNat ∧ (∀ c ∈ cs, 0 ≤ c ∧ c < q) ∧ Pd p st st' := by
  unfold F_law_coins
  walk_at "ev"
  rw [rngs_map]
  obtain ⟨acc, st', e, cs, rfl, hl, hb, hp⟩ := lcl_rel (cur := fun _ => some ((List.range t.toNat).map fun i => Val.int (0 + (i : Nat)))) (g := gN 3) (tt := tYes) (te := eCall F_law_draw [] (aCons (eV 0) (aCons (eV 1) aNil))) (ρ := [some (.ref p), some (.int q), some (.int t), none]) (st := st)
    (List.range t.toNat) (fun i => Val.int (0 + (i : Nat))) (fun d acc s => ∃ cs : List Int, acc = iL cs ∧ cs.length = d.length ∧ (∀ c ∈ cs, 0 ≤ c ∧ c < q) ∧ Pd p st s) (by rw [List.length_range]; omega) ⟨[], rfl, rfl, fun _ z => (by cases z), Pd.refl h⟩ (fun _ _ _ _ => rfl) (by
    rintro d i r acc s _ ⟨cs, rfl, hl, hb, hp⟩
    obtain ⟨c, s2, e, c0, c1, hd⟩ := draw_pen (m := q) hp.pen (by omega)
    refine ⟨some (.int c), s2, ?_, cs ++ [c], by simp, by rw [List.length_append, List.length_append, hl]; rfl, fun x hx => ?_, hp.trans hd⟩
    · simp (disch := walk_at "dz") only [seval, Int.reduceToNat, Nat.reduceAdd, Nat.reduceSub, Nat.reduceMul, Nat.reduceLT, Nat.reduceLeDiff, Nat.reduceEqDiff, Nat.reduceBEq, Nat.reduceMod, Nat.reduceDiv, Int.reduceAdd, Int.reduceSub, Int.reduceMul, Int.reduceNeg, Int.reduceLT, Int.reduceLE, Int.reduceEq, Int.reduceBEq, Int.reduceBNe, Int.reduceMod, Int.reduceDiv, Int.cast_ofNat_Int, e]
    · rcases List.mem_append.mp hx with hx | hx
      · exact hb x hx
      · rw [List.mem_singleton.mp hx]
        exact ⟨c0, c1⟩)
  rw [e]
  walk_at "ev"
  exact ⟨cs, st', rfl, by rw [hl, List.length_range], hb, hp⟩
theorem company_ok {p : Nat} {st : Store} {cs : List Val} (h : Pen p st) (hl : 0 < cs.length ∧ cs.length < 1000) : ∃ c st', F_law_company [.ref p, .ro cs] st = .ok c st' ∧ c ∈ cs ∧ Pd p st st' := by
  obtain ⟨d, st', e, d0, d1, hd⟩ := draw_pen (m := (cs.length : Nat)) h (by omega)
  have hc : d.toNat < cs.length := by omega
  refine ⟨cs[d.toNat], st', ?_, List.getElem_mem hc, hd⟩
  have ha : atI cs d = some cs[d.toNat] := at_eq d0 (List.getElem?_eq_getElem hc)
  unfold F_law_company
  simp (disch := walk_at "dz") only [seval, Int.reduceToNat, Nat.reduceAdd, Nat.reduceSub, Nat.reduceMul, Nat.reduceLT, Nat.reduceLeDiff, Nat.reduceEqDiff, Nat.reduceBEq, Nat.reduceMod, Nat.reduceDiv, Int.reduceAdd, Int.reduceSub, Int.reduceMul, Int.reduceNeg, Int.reduceLT, Int.reduceLE, Int.reduceEq, Int.reduceBEq, Int.reduceBNe, Int.reduceMod, Int.reduceDiv, Int.cast_ofNat_Int, r_law_fresh_0, r_law_fresh_1, r_law_fresh_2, t_law_fresh, r_law_draw_0, t_law_draw, r_law_bent_row_0, r_law_bent_row_1, r_law_bent_row_2, r_law_bent_row_3, r_law_bent_row_4, t_law_bent_row, r_law_bent_cover_0, r_law_bent_cover_1, r_law_bent_cover_2, r_law_bent_cover_3, t_law_bent_cover, r_law_bent_0, r_law_bent_1, r_law_bent_2, r_law_bent_3, r_law_bent_4, t_law_bent, t_law_coins, t_law_companies, t_law_company, t_law_pen, r_law_piece_0, t_law_piece, t_law_pieces, t_law_number, r_law_same_0, r_law_same_1, r_law_same_2, r_law_same_3, r_law_same_4, r_law_same_5, r_law_same_6, t_law_same, t_is_number, r_is_same_0, r_is_same_1, r_is_same_2, t_is_same, r_turned_0, t_turned, r_with_nought_0, t_with_nought, r_worth_0, t_worth, r_through_0, r_through_1, t_through, t_curve_of, r_lots_of_0, r_lots_of_1, t_lots_of, t_off_hands, r_mended_0, r_mended_1, t_mended, t_is_mended, r_law_0, r_law_1, r_law_2, t_law, e, ha]
theorem piece_ok {c : List Int} {m x q : Int} {st : Store} (h0 : 0 < q) (hx : -10000 ≤ x ∧ x < 10000) (hc : c.length < 10000) : F_law_piece [.int m, .tup (iL c), .int x, .int q] st = .ok (.int (pev (m :: c) x % q)) st := by
  have k : fl (fun _ => some (c.reverse.map Val.int)) (gN 5) b_law_piece_0 bigN 0 [some (.int m), none, some (.int x), some (.int q), some (.int 0), none] st = .nx [some (.int m), none, some (.int x), some (.int q), some (.int (pev c x % q)), none] st := by
    rw [fl_fold c.reverse Val.int (fun a n => (a * x + n) % q) (fun a => [some (.int m), none, some (.int x), some (.int q), some (.int a), none]) 0]
    · rw [List.foldl_reverse, show (0 : Int) = 0 % q by simp, horner_mod]
    · walk_at "dz"
    · intro a s _
      unfold b_law_piece_0
      refine ⟨_, _, rfl, ?_⟩
      walk_at "ev"
  unfold F_law_piece
  walk_at "ev"
  rw [k]
  walk_at "ev"
  rw [pev_cons, Int.add_emod, Int.mul_emod, Int.emod_emod, ← Int.mul_emod, ← Int.add_emod]
theorem pieces_ok {c : List Int} {q n t m : Int} {st : Store} (h0 : 0 < q) (h1 : 0 ≤ n ∧ n < 1000) (hc : c.length ≤ 1000) : F_law_pieces [coV q n t, .int m, .tup (iL c)] st = .ok (.tup (iL (dealL q n (m :: c)))) st := by
  unfold coV F_law_pieces
  walk_at "ev"
  rw [rngs_map, lcl_mp (List.range n.toNat) (fun i => Val.int (0 + (i : Nat))) (fun i => Val.int (pev (m :: c) ((i : Int) + 1) % q)) rfl (by rw [List.length_range]; omega)]
  · walk_at "ev"
    unfold dealL rngI
    simp
  · intro i hi
    have := List.mem_range.mp hi
    have w : F_law_piece [.int m, .tup (iL c), .int (0 + (i : Int) + 1), .int q] st = .ok (.int (pev (m :: c) ((i : Int) + 1) % q)) st := by
      rw [Int.zero_add]
      exact piece_ok h0 (by omega) (by omega)
    simp (disch := walk_at "dz") only [seval, Int.reduceToNat, Nat.reduceAdd, Nat.reduceSub, Nat.reduceMul, Nat.reduceLT, Nat.reduceLeDiff, Nat.reduceEqDiff, Nat.reduceBEq, Nat.reduceMod, Nat.reduceDiv, Int.reduceAdd, Int.reduceSub, Int.reduceMul, Int.reduceNeg, Int.reduceLT, Int.reduceLE, Int.reduceEq, Int.reduceBEq, Int.reduceBNe, Int.reduceMod, Int.reduceDiv, Int.cast_ofNat_Int, w]
/-- a company of the law's -/
structure Co (c : Val) (q : Int) (n t : Nat) : Prop where
  eq : c = coV q (n : Int) (t : Int)
  prime : q ∈ nine
  n7 : n ≤ 7
  t3 : 1 ≤ t ∧ t ≤ 3
  tn : 2 * t < n
  nq : (n : Int) < q
def cos : List Val := [coV 5 3 1, coV 5 4 1, coV 7 3 1, coV 7 5 2, coV 7 6 2, coV 11 7 3, coV 13 5 2, coV 31 7 1, coV 7 6 1]
theorem companies_ok {st : Store} : F_law_companies [] st = .ok (.ro cos) st := by
  unfold F_law_companies
  walk_at "ev"
  rfl
theorem co_of {c : Val} (h : c ∈ cos) : ∃ q n t, Co c q n t := by
  simp only [cos, List.mem_cons, List.not_mem_nil, or_false] at h
  rcases h with rfl | rfl | rfl | rfl | rfl | rfl | rfl | rfl | rfl
  · exact ⟨5, 3, 1, rfl, by decide, by decide, by decide, by decide, by decide⟩
  · exact ⟨5, 4, 1, rfl, by decide, by decide, by decide, by decide, by decide⟩
  · exact ⟨7, 3, 1, rfl, by decide, by decide, by decide, by decide, by decide⟩
  · exact ⟨7, 5, 2, rfl, by decide, by decide, by decide, by decide, by decide⟩
  · exact ⟨7, 6, 2, rfl, by decide, by decide, by decide, by decide, by decide⟩
  · exact ⟨11, 7, 3, rfl, by decide, by decide, by decide, by decide, by decide⟩
  · exact ⟨13, 5, 2, rfl, by decide, by decide, by decide, by decide, by decide⟩
  · exact ⟨31, 7, 1, rfl, by decide, by decide, by decide, by decide, by decide⟩
  · exact ⟨7, 6, 1, rfl, by decide, by decide, by decide, by decide, by decide⟩
theorem put_mid {pl : List Int} {h d : Int} (h0 : 0 ≤ h) (h1 : h < (pl.length : Int)) : iL (pl.take h.toNat) ++ [Val.int d] ++ iL (pl.drop (h + 1).toNat) = iL (pl.set h.toNat d) := by
  rw [List.set_eq_take_append_cons_drop, if_pos (by omega), show (h + 1).toNat = h.toNat + 1 by omega]
  simp
theorem law_turn {i : Val} {st : Store} (hp : Pen 0 st) : ∃ st', b_law_2 [none, some (.ref 0), some i, none, none, none, none, none, none, none, none, none, none, none, none] st = .nx [none, some (.ref 0), none, none, none, none, none, none, none, none, none, none, none, none, none] st' ∧ Pen 0 st' := by
  obtain ⟨c, s1, e1, hc, p1⟩ := company_ok (cs := cos) hp (by decide)
  obtain ⟨q, n, t, h⟩ := co_of hc
  have hco := h.eq
  have h1 := h.t3; have h2 := h.tn; have h3 := h.nq; have h7 := h.n7; have hq := nine_le h.prime
  subst hco
  obtain ⟨m, s2, e2, m0, m1, p2⟩ := draw_pen (m := q) p1.pen (by omega)
  obtain ⟨cs, s3, e3, cl, cb, p3⟩ := coins_ok (q := q) (t := (t : Int)) p2.pen (by omega) (by omega)
  have w2 := pieces_ok (c := cs) (q := q) (n := (n : Int)) (t := (t : Int)) (m := m) (st := s3) (by omega) (by omega) (by omega)
  have dl : ((dealL q (n : Int) (m :: cs)).length : Int) = n := by rw [dealL_len]; omega
  have dn := dealL_low (q := q) (n := (n : Int)) (c := m :: cs) (by omega)
  obtain ⟨k, s4, e4, k0, k1, p4⟩ := draw_pen (m := 4) p3.pen (by decide)
  have hcoV : coV q (n : Int) (t : Int) = .tup [.int q, .int n, .int t] := rfl
  unfold b_law_2
  rw [hcoV] at e1 w2
  simp (disch := walk_at "dz") only [seval, Int.reduceToNat, Nat.reduceAdd, Nat.reduceSub, Nat.reduceMul, Nat.reduceLT, Nat.reduceLeDiff, Nat.reduceEqDiff, Nat.reduceBEq, Nat.reduceMod, Nat.reduceDiv, Int.reduceAdd, Int.reduceSub, Int.reduceMul, Int.reduceNeg, Int.reduceLT, Int.reduceLE, Int.reduceEq, Int.reduceBEq, Int.reduceBNe, Int.reduceMod, Int.reduceDiv, Int.cast_ofNat_Int, companies_ok, e1, e2, e3, w2, e4]
  obtain ⟨x, hx, hxm⟩ := at_mem (l := [Val.int 0, .int 1, .int 2, .int 3]) k0 (by show k < 4; exact k1)
  obtain ⟨z, rfl, hz⟩ : ∃ z : Int, x = .int z ∧ 0 ≤ z ∧ z < 4 := by
    simp only [List.mem_cons, List.not_mem_nil, or_false] at hxm
    rcases hxm with rfl | rfl | rfl | rfl <;> exact ⟨_, rfl, by decide, by decide⟩
  simp (disch := walk_at "dz") only [seval, Int.reduceToNat, Nat.reduceAdd, Nat.reduceSub, Nat.reduceMul, Nat.reduceLT, Nat.reduceLeDiff, Nat.reduceEqDiff, Nat.reduceBEq, Nat.reduceMod, Nat.reduceDiv, Int.reduceAdd, Int.reduceSub, Int.reduceMul, Int.reduceNeg, Int.reduceLT, Int.reduceLE, Int.reduceEq, Int.reduceBEq, Int.reduceBNe, Int.reduceMod, Int.reduceDiv, Int.cast_ofNat_Int, hx]
  rw [rngs_map]
  obtain ⟨ρ', s5, e5, p5, pl, rfl, hl, hn⟩ := fl_nx (g := gN 8) (b := b_law_1) (cur := fun _ => some ((List.range (z - 0).toNat).map fun i => Val.int (0 + (i : Nat))))
    (ρ := [none, some (.ref 0), none, some (.tup [.int q, .int (n : Int), .int (t : Int)]), some (.int q), some (.int (n : Int)), none, some (.tup (iL (dealL q (n : Int) (m :: cs)))), none, none, none, none, none, none, none]) (st := s4) (List.range (z - 0).toNat) (fun i => Val.int (0 + (i : Nat)))
    (fun d ρ s => Pen 0 s ∧ ∃ pl : List Int, ρ = [none, some (.ref 0), none, some (.tup [.int q, .int (n : Int), .int (t : Int)]), some (.int q), some (.int (n : Int)), none, some (.tup (iL pl)), none, none, none, none, none, none, none] ∧ (pl.length : Int) = n ∧ ∀ p ∈ pl, 0 ≤ p ∧ p < q) (by rw [List.length_range]; omega) ⟨p4.pen, _, rfl, dl, dn⟩ (fun _ _ _ _ => rfl) (by
    rintro d i r ρ s _ ⟨hp, pl, rfl, hl, hn⟩
    obtain ⟨hd, s1, e1, a0, a1, p1⟩ := draw_pen (m := (n : Int)) hp (by omega)
    obtain ⟨x, s2, e2, b0, b1, p2⟩ := draw_pen (m := q - 1) p1.pen (by omega)
    obtain ⟨y, hy⟩ : ∃ y, pl[hd.toNat]? = some y := ⟨_, List.getElem?_eq_getElem (show hd.toNat < pl.length by omega)⟩
    have hyb := hn y (List.mem_of_getElem? hy)
    have hat : atI (iL pl) hd = some (.int y) := at_eq a0 (by rw [List.getElem?_map, hy]; rfl)
    have hlow : 0 ≤ (y + 1 + x) % q ∧ (y + 1 + x) % q < q := ⟨Int.emod_nonneg _ (by omega), Int.emod_lt_of_pos _ (by omega)⟩
    unfold b_law_1
    refine ⟨_, _, rfl, ?_⟩
    simp (disch := walk_at "dz") only [seval, Int.reduceToNat, Nat.reduceAdd, Nat.reduceSub, Nat.reduceMul, Nat.reduceLT, Nat.reduceLeDiff, Nat.reduceEqDiff, Nat.reduceBEq, Nat.reduceMod, Nat.reduceDiv, Int.reduceAdd, Int.reduceSub, Int.reduceMul, Int.reduceNeg, Int.reduceLT, Int.reduceLE, Int.reduceEq, Int.reduceBEq, Int.reduceBNe, Int.reduceMod, Int.reduceDiv, Int.cast_ofNat_Int, e1, e2, hat]
    rw [put_mid a0 (by omega)]
    refine ⟨p2.pen, _, rfl, by rw [List.length_set]; exact hl, fun p hp => ?_⟩
    rcases List.mem_or_eq_of_mem_set hp with hp | rfl
    · exact hn p hp
    · exact hlow)
  simp only [Int.sub_zero] at e5 ⊢
  rw [e5]
  obtain ⟨g, hgM, hG⟩ : ∃ g, (∀ st, F_mended [coV q (n : Int) (t : Int), .tup (iL pl)] st = .ok g st) ∧ Mg q (n : Int) g := mended_det (pl := pl) h.prime h7 h1 h2 h3 (by omega) hn
  obtain ⟨gdt, gs, gd⟩ := hG.dt hq.2
  obtain ⟨c2, s6, e6, cl2, cb2, p6⟩ := coins_ok (q := q) (t := (n : Int)) p5 (by omega) (by omega)
  obtain ⟨g2, e7, hG2, _⟩ := mended_ok (st := s6) h.prime h7 h1 h2 h3 (pl := c2) (by omega) cb2
  rw [hcoV] at e7
  have hgM' := fun st => hgM st
  simp only [hcoV] at hgM'
  simp (disch := walk_at "dz") only [seval, Int.reduceToNat, Nat.reduceAdd, Nat.reduceSub, Nat.reduceMul, Nat.reduceLT, Nat.reduceLeDiff, Nat.reduceEqDiff, Nat.reduceBEq, Nat.reduceMod, Nat.reduceDiv, Int.reduceAdd, Int.reduceSub, Int.reduceMul, Int.reduceNeg, Int.reduceLT, Int.reduceLE, Int.reduceEq, Int.reduceBEq, Int.reduceBNe, Int.reduceMod, Int.reduceDiv, Int.cast_ofNat_Int, r_law_2, hgM', e6, e7]
  have dt2 := (hG2.dt hq.2).1
  obtain ⟨acc, s7, e8, ha, hal, p7⟩ := lcl_rel (cur := fun _ => some (rngs 0 3)) (g := gN 14) (tt := FL.tYes) (te := eCall F_law_bent [] (aCons (eV 1) (aCons (eV 11) (aCons (eV 4) aNil)))) (ρ := [none, some (Val.ref 0), none, some (Val.tup [Val.int q, Val.int (n : Int), Val.int (t : Int)]), some (Val.int q), some (Val.int (n : Int)), none, some (Val.tup (iL pl)), none, none, some g2, some g, none, none, none]) (st := s6)
    (List.range 3) (fun i => Val.int (0 + (i : Nat))) (fun d acc s => (∀ x ∈ acc, Dt 700 12 x) ∧ acc.length = d.length ∧ Pen 0 s) (by decide) ⟨(fun _ z => (by cases z)), rfl, p6.pen⟩ (fun _ _ _ _ => rfl) (by
    rintro d i r acc s _ ⟨ha, hal, hp⟩
    obtain ⟨x, s2, e, hx, hd⟩ := bent_ok (q := q) (n := (n : Int)) hp hq hG
    refine ⟨some x, s2, ?_, fun z hz => ?_, by rw [List.length_append, List.length_append, hal]; rfl, hd.pen⟩
    · simp (disch := walk_at "dz") only [seval, Int.reduceToNat, Nat.reduceAdd, Nat.reduceSub, Nat.reduceMul, Nat.reduceLT, Nat.reduceLeDiff, Nat.reduceEqDiff, Nat.reduceBEq, Nat.reduceMod, Nat.reduceDiv, Int.reduceAdd, Int.reduceSub, Int.reduceMul, Int.reduceNeg, Int.reduceLT, Int.reduceLE, Int.reduceEq, Int.reduceBEq, Int.reduceBNe, Int.reduceMod, Int.reduceDiv, Int.cast_ofNat_Int, e]
    · rcases List.mem_append.mp hz with hz | hz
      · exact ha z hz
      · rw [List.mem_singleton.mp hz]
        exact hx)
  rw [e8]
  have hl3 : acc.length = 3 := hal
  simp (disch := walk_at "dz") only [seval, Int.reduceToNat, Nat.reduceAdd, Nat.reduceSub, Nat.reduceMul, Nat.reduceLT, Nat.reduceLeDiff, Nat.reduceEqDiff, Nat.reduceBEq, Nat.reduceMod, Nat.reduceDiv, Int.reduceAdd, Int.reduceSub, Int.reduceMul, Int.reduceNeg, Int.reduceLT, Int.reduceLE, Int.reduceEq, Int.reduceBEq, Int.reduceBNe, Int.reduceMod, Int.reduceDiv, Int.cast_ofNat_Int]
  have hf := fl_fold (g := gN 12) (b := b_law_0) (st := s7) ([g, g2] ++ acc) id (fun s _ => s) (fun _ => [none, some (Val.ref 0), none, some (Val.tup [Val.int q, Val.int (n : Int), Val.int (t : Int)]), none, none, none, some (Val.tup (iL pl)), none, none, none, some g, none, none, none]) () (by rw [List.length_append, hl3]; show 2 + 3 < 1000000; decide) (by
    rintro x _ hx
    have hxd : Dt 700 12 x := by
      rcases List.mem_append.mp hx with hx | hx
      · rcases List.mem_cons.mp hx with rfl | hx
        · exact gdt
        · rw [List.mem_singleton.mp hx]
          exact dt2
      · exact ha x hx
    exact ⟨_, _, rfl, ask_ok hgM ⟨gs, gd⟩ hxd⟩)
  rw [List.map_id] at hf
  rw [show (g :: g2 :: acc : List Val) = [g, g2] ++ acc from rfl, hf]
  obtain ⟨o1, o2, o3, _⟩ := gdt.ok (by decide) (by decide)
  have w1 := isame_ok 6 (x := g) (y := g) (st := s7) o1 gs o3 gd
  have w3 : F_is_mended [g, .tup [.int q, .int (n : Int), .int (t : Int)], .tup (iL pl)] s7 = .ok (.bl true) s7 := by
    rw [smV_refl (sure_plain gs)] at w1
    unfold F_is_mended
    simp (disch := walk_at "dz") only [seval, Int.reduceToNat, Nat.reduceAdd, Nat.reduceSub, Nat.reduceMul, Nat.reduceLT, Nat.reduceLeDiff, Nat.reduceEqDiff, Nat.reduceBEq, Nat.reduceMod, Nat.reduceDiv, Int.reduceAdd, Int.reduceSub, Int.reduceMul, Int.reduceNeg, Int.reduceLT, Int.reduceLE, Int.reduceEq, Int.reduceBEq, Int.reduceBNe, Int.reduceMod, Int.reduceDiv, Int.cast_ofNat_Int, t_is_mended, hgM', w1]
  have b3 : byPl [2, 1, 0] [.tup (iL pl), .tup [.int q, .int (n : Int), .int (t : Int)], g] = [g, .tup [.int q, .int (n : Int), .int (t : Int)], .tup (iL pl)] := rfl
  simp (disch := walk_at "dz") only [seval, Int.reduceToNat, Nat.reduceAdd, Nat.reduceSub, Nat.reduceMul, Nat.reduceLT, Nat.reduceLeDiff, Nat.reduceEqDiff, Nat.reduceBEq, Nat.reduceMod, Nat.reduceDiv, Int.reduceAdd, Int.reduceSub, Int.reduceMul, Int.reduceNeg, Int.reduceLT, Int.reduceLE, Int.reduceEq, Int.reduceBEq, Int.reduceBNe, Int.reduceMod, Int.reduceDiv, Int.cast_ofNat_Int, r_law_1, w3, b3]
  exact ⟨s7, rfl, p7⟩
theorem law_ok : LawOk F_law := fun ns hl _ => by
  unfold F_law
  simp (disch := walk_at "dz") only [seval, Int.reduceToNat, Nat.reduceAdd, Nat.reduceSub, Nat.reduceMul, Nat.reduceLT, Nat.reduceLeDiff, Nat.reduceEqDiff, Nat.reduceBEq, Nat.reduceMod, Nat.reduceDiv, Int.reduceAdd, Int.reduceSub, Int.reduceMul, Int.reduceNeg, Int.reduceLT, Int.reduceLE, Int.reduceEq, Int.reduceBEq, Int.reduceBNe, Int.reduceMod, Int.reduceDiv, Int.cast_ofNat_Int, t_law, pen_ok hl]
  rw [rngs_map]
  obtain ⟨ρ', s4, e4, p4, rfl⟩ := fl_nx (g := gN 2) (b := b_law_2) (cur := fun _ => some ((List.range 2).map fun i => Val.int (0 + (i : Nat))))
    (ρ := [none, some (.ref 0), none, none, none, none, none, none, none, none, none, none, none, none, none]) (st := [.lst [.ro (iL ns), .int 0, .int 0]]) (List.range 2) (fun i => Val.int (0 + (i : Nat)))
    (fun d ρ s => Pen 0 s ∧ ρ = [none, some (.ref 0), none, none, none, none, none, none, none, none, none, none, none, none, none]) (by decide) ⟨pen_new (st := []), rfl⟩ (fun _ _ _ _ => rfl) (by
    rintro d i r ρ s _ ⟨hp, rfl⟩
    obtain ⟨s', e, h4⟩ := law_turn (i := Val.int (0 + (i : Nat))) hp
    refine ⟨_, _, rfl, ?_⟩
    show (b_law_2 [none, some (.ref 0), some (Val.int (0 + (i : Nat))), none, none, none, none, none, none, none, none, none, none, none, none] s).turnP _ _
    rw [e]
    exact ⟨h4, rfl⟩)
  simp only [List.nil_append, List.length_nil, Int.reduceToNat] at e4 ⊢
  rw [e4]
  walk_at "ev"
  rw [retV_id rfl rfl]
  exact ⟨_, rfl⟩
def topS (i : Nat) : Stmt := PySem.Challenge.pw_mutehands_k13_what_was_found_looked_over.main.body.getD i (.Pass ⟨0, 0, 0, 0⟩)
abbrev s_law_fresh : Stmt := topS 18
abbrev s_law_draw : Stmt := topS 19
abbrev s_law_bent_row : Stmt := topS 27
abbrev s_law_bent_cover : Stmt := topS 28
abbrev s_law_bent : Stmt := topS 29
abbrev s_law_coins : Stmt := topS 24
abbrev s_law_companies : Stmt := topS 21
abbrev s_law_company : Stmt := topS 20
abbrev s_law_pen : Stmt := topS 17
abbrev s_law_piece : Stmt := topS 25
abbrev s_law_pieces : Stmt := topS 26
abbrev s_law_number : Stmt := topS 22
abbrev s_law_same : Stmt := topS 23
abbrev s_is_number : Stmt := topS 9
abbrev s_is_same : Stmt := topS 14
abbrev s_turned : Stmt := topS 4
abbrev s_with_nought : Stmt := topS 6
abbrev s_worth : Stmt := topS 5
abbrev s_through : Stmt := topS 7
abbrev s_curve_of : Stmt := topS 10
abbrev s_lots_of : Stmt := topS 12
abbrev s_off_hands : Stmt := topS 11
abbrev s_mended : Stmt := topS 13
abbrev s_is_mended : Stmt := topS 15
abbrev s_law : Stmt := topS 30
def inX (s : Stmt) (j : Nat) : Stmt := match s with
  | .ClassDef _ _ _ body _ _ _ _ _ _ _ => body.getD j (.Pass ⟨0, 0, 0, 0⟩)
  | s => s
abbrev si_NoCurve : Stmt := inX (topS 2) 0
theorem scx_NoCurve : FnScope ["self", "place"] ["self", "place"] (defScope si_NoCurve) := ⟨rfl, rfl, rfl, by decide +kernel, rfl, by decide +kernel, by decide +kernel⟩
abbrev si_NoTurned : Stmt := inX (topS 1) 0
theorem scx_NoTurned : FnScope ["self", "prime"] ["self", "prime"] (defScope si_NoTurned) := ⟨rfl, rfl, rfl, by decide +kernel, rfl, by decide +kernel, by decide +kernel⟩
theorem sc_law_fresh : FnScope ["_law_pen_here", "_law_at", "_law_cell", "_law_p", "_law_one", "_law_found", "_law_turn"] ["_law_pen_here"] (defScope s_law_fresh) := ⟨rfl, rfl, rfl, by decide +kernel, rfl, by decide +kernel, by decide +kernel⟩
theorem sc_law_draw : FnScope ["_law_pen_here", "_law_many", "_law_digit"] ["_law_pen_here", "_law_many"] (defScope s_law_draw) := ⟨rfl, rfl, rfl, by decide +kernel, rfl, by decide +kernel, by decide +kernel⟩
theorem sc_law_bent_row : FnScope ["_law_pen_here", "_law_row", "_law_lot", "_law_off", "_law_form", "_law_some", "_law_hand"] ["_law_pen_here", "_law_row"] (defScope s_law_bent_row) := ⟨rfl, rfl, rfl, by decide +kernel, rfl, by decide +kernel, by decide +kernel⟩
theorem sc_law_bent_cover : FnScope ["_law_pen_here", "_law_cover", "_law_at", "_law_form"] ["_law_pen_here", "_law_cover"] (defScope s_law_bent_cover) := ⟨rfl, rfl, rfl, by decide +kernel, rfl, by decide +kernel, by decide +kernel⟩
theorem sc_law_bent : FnScope ["_law_pen_here", "_law_good", "_law_prime", "_law_things", "_law_odd", "_law_form", "_law_some", "_law_word", "_law_much", "_law_off", "_law_hand"] ["_law_pen_here", "_law_good", "_law_prime"] (defScope s_law_bent) := ⟨rfl, rfl, rfl, by decide +kernel, rfl, by decide +kernel, by decide +kernel⟩
theorem sc_law_coins : FnScope ["_law_pen_here", "_law_prime", "_law_many", "_law_k"] ["_law_pen_here", "_law_prime", "_law_many"] (defScope s_law_coins) := ⟨rfl, rfl, rfl, by decide +kernel, rfl, by decide +kernel, by decide +kernel⟩
theorem sc_law_companies : FnScope [] [] (defScope s_law_companies) := ⟨rfl, rfl, rfl, by decide +kernel, rfl, by decide +kernel, by decide +kernel⟩
theorem sc_law_company : FnScope ["_law_pen_here", "_law_some"] ["_law_pen_here", "_law_some"] (defScope s_law_company) := ⟨rfl, rfl, rfl, by decide +kernel, rfl, by decide +kernel, by decide +kernel⟩
theorem sc_law_pen : FnScope ["_law_script"] ["_law_script"] (defScope s_law_pen) := ⟨rfl, rfl, rfl, by decide +kernel, rfl, by decide +kernel, by decide +kernel⟩
theorem sc_law_piece : FnScope ["_law_amount", "_law_cash", "_law_place", "_law_prime", "_law_found", "_law_coin"] ["_law_amount", "_law_cash", "_law_place", "_law_prime"] (defScope s_law_piece) := ⟨rfl, rfl, rfl, by decide +kernel, rfl, by decide +kernel, by decide +kernel⟩
theorem sc_law_pieces : FnScope ["_law_group", "_law_amount", "_law_cash", "_law_hand"] ["_law_group", "_law_amount", "_law_cash"] (defScope s_law_pieces) := ⟨rfl, rfl, rfl, by decide +kernel, rfl, by decide +kernel, by decide +kernel⟩
theorem sc_law_number : FnScope ["_law_item"] ["_law_item"] (defScope s_law_number) := ⟨rfl, rfl, rfl, by decide +kernel, rfl, by decide +kernel, by decide +kernel⟩
theorem sc_law_same : FnScope ["_law_found", "_law_due", "_law_key", "_law_one", "_law_other"] ["_law_found", "_law_due"] (defScope s_law_same) := ⟨rfl, rfl, rfl, by decide +kernel, rfl, by decide +kernel, by decide +kernel⟩
theorem sc_is_number : FnScope ["thing"] ["thing"] (defScope s_is_number) := ⟨rfl, rfl, rfl, by decide +kernel, rfl, by decide +kernel, by decide +kernel⟩
theorem sc_is_same : FnScope ["thing", "due", "one", "other"] ["thing", "due"] (defScope s_is_same) := ⟨rfl, rfl, rfl, by decide +kernel, rfl, by decide +kernel, by decide +kernel⟩
theorem sc_turned : FnScope ["number", "prime", "other"] ["number", "prime"] (defScope s_turned) := ⟨rfl, rfl, rfl, by decide +kernel, rfl, by decide +kernel, by decide +kernel⟩
theorem sc_with_nought : FnScope ["curve", "place", "prime", "longer", "at", "number"] ["curve", "place", "prime"] (defScope s_with_nought) := ⟨rfl, rfl, rfl, by decide +kernel, rfl, by decide +kernel, by decide +kernel⟩
theorem sc_worth : FnScope ["curve", "x", "prime", "found", "number"] ["curve", "x", "prime"] (defScope s_worth) := ⟨rfl, rfl, rfl, by decide +kernel, rfl, by decide +kernel, by decide +kernel⟩
theorem sc_through : FnScope ["points", "prime", "places", "at", "place", "found", "nought", "number", "gap", "times", "one", "other"] ["points", "prime"] (defScope s_through) := ⟨rfl, rfl, rfl, by decide +kernel, rfl, by decide +kernel, by decide +kernel⟩
theorem sc_curve_of : FnScope ["company", "hands", "pieces", "hand"] ["company", "hands", "pieces"] (defScope s_curve_of) := ⟨rfl, rfl, rfl, by decide +kernel, rfl, by decide +kernel, by decide +kernel⟩
theorem sc_lots_of : FnScope ["many", "some", "least", "found", "hand", "rest"] ["many", "some", "least"] (defScope s_lots_of) := ⟨rfl, rfl, rfl, by decide +kernel, rfl, by decide +kernel, by decide +kernel⟩
theorem sc_off_hands : FnScope ["company", "curve", "pieces", "hand", "piece"] ["company", "curve", "pieces"] (defScope s_off_hands) := ⟨rfl, rfl, rfl, by decide +kernel, rfl, by decide +kernel, by decide +kernel⟩
theorem sc_mended : FnScope ["company", "pieces", "prime", "many", "few", "slack", "cover", "some", "curve", "off"] ["company", "pieces"] (defScope s_mended) := ⟨rfl, rfl, rfl, by decide +kernel, rfl, by decide +kernel, by decide +kernel⟩
theorem sc_is_mended : FnScope ["thing", "company", "pieces"] ["thing", "company", "pieces"] (defScope s_is_mended) := ⟨rfl, rfl, rfl, by decide +kernel, rfl, by decide +kernel, by decide +kernel⟩
theorem sc_law : FnScope ["_law_script", "_law_pen_here", "_law_turn", "_law_group", "_law_prime", "_law_hands", "_law_few", "_law_some", "_law_k", "_law_hand", "_law_other", "_law_good", "_law_item", "_law_kept", "_law_often"] ["_law_script"] (defScope s_law) := ⟨rfl, rfl, rfl, by decide +kernel, rfl, by decide +kernel, by decide +kernel⟩
/-- what the top has left -/
structure Txt (K : PySem.W.Frag) (mg : Str → Option Value) where
  g_NoCurve : mg "NoCurve" = some (.ref (cA K "NoCurve"))
  g_NoTurned : mg "NoTurned" = some (.ref (cA K "NoTurned"))
  v_ValueError : PySem.W.findCls K (.type "ValueError") (.type "type") "__init__" = some (.val (.builtin "ValueError.__init__"))
  v_ZeroDivisionError : PySem.W.findCls K (.type "ZeroDivisionError") (.type "type") "__init__" = some (.val (.builtin "ZeroDivisionError.__init__"))
  fx_NoCurve : Addr
  fdx_NoCurve : FuncData
  x_NoCurve : XiOk K mg "NoCurve" "place" "ValueError.__new__" [.type "ValueError", .type "Exception", .type "BaseException", .type "object"] "NoCurve.__init__" si_NoCurve fx_NoCurve fdx_NoCurve
  fx_NoTurned : Addr
  fdx_NoTurned : FuncData
  x_NoTurned : XiOk K mg "NoTurned" "prime" "ZeroDivisionError.__new__" [.type "ZeroDivisionError", .type "ArithmeticError", .type "Exception", .type "BaseException", .type "object"] "NoTurned.__init__" si_NoTurned fx_NoTurned fdx_NoTurned
  te : TbOk K tbE
  m_ValueError : mg "ValueError" = none
  m_ZeroDivisionError : mg "ZeroDivisionError" = none
  m_all : mg "all" = none
  m_bool : mg "bool" = none
  m_dict : mg "dict" = none
  m_enumerate : mg "enumerate" = none
  m_int : mg "int" = none
  m_isinstance : mg "isinstance" = none
  m_len : mg "len" = none
  m_list : mg "list" = none
  m_range : mg "range" = none
  m_repr : mg "repr" = none
  m_sorted : mg "sorted" = none
  m_str : mg "str" = none
  m_tuple : mg "tuple" = none
  m_zip : mg "zip" = none
  f_law_fresh : Addr
  fd_law_fresh : FuncData
  F_law_fresh : Fun K "_law_fresh" "_law_fresh" s_law_fresh f_law_fresh fd_law_fresh
  m_law_fresh : mg "_law_fresh" = some (.ref f_law_fresh)
  b_law_fresh : Binds K fd_law_fresh ["_law_pen_here"] []
  f_law_draw : Addr
  fd_law_draw : FuncData
  F_law_draw : Fun K "_law_draw" "_law_draw" s_law_draw f_law_draw fd_law_draw
  m_law_draw : mg "_law_draw" = some (.ref f_law_draw)
  b_law_draw : Binds K fd_law_draw ["_law_pen_here", "_law_many"] []
  f_law_bent_row : Addr
  fd_law_bent_row : FuncData
  F_law_bent_row : Fun K "_law_bent_row" "_law_bent_row" s_law_bent_row f_law_bent_row fd_law_bent_row
  m_law_bent_row : mg "_law_bent_row" = some (.ref f_law_bent_row)
  b_law_bent_row : Binds K fd_law_bent_row ["_law_pen_here", "_law_row"] []
  f_law_bent_cover : Addr
  fd_law_bent_cover : FuncData
  F_law_bent_cover : Fun K "_law_bent_cover" "_law_bent_cover" s_law_bent_cover f_law_bent_cover fd_law_bent_cover
  m_law_bent_cover : mg "_law_bent_cover" = some (.ref f_law_bent_cover)
  b_law_bent_cover : Binds K fd_law_bent_cover ["_law_pen_here", "_law_cover"] []
  f_law_bent : Addr
  fd_law_bent : FuncData
  F_law_bent : Fun K "_law_bent" "_law_bent" s_law_bent f_law_bent fd_law_bent
  m_law_bent : mg "_law_bent" = some (.ref f_law_bent)
  b_law_bent : Binds K fd_law_bent ["_law_pen_here", "_law_good", "_law_prime"] []
  f_law_coins : Addr
  fd_law_coins : FuncData
  F_law_coins : Fun K "_law_coins" "_law_coins" s_law_coins f_law_coins fd_law_coins
  m_law_coins : mg "_law_coins" = some (.ref f_law_coins)
  b_law_coins : Binds K fd_law_coins ["_law_pen_here", "_law_prime", "_law_many"] []
  f_law_companies : Addr
  fd_law_companies : FuncData
  F_law_companies : Fun K "_law_companies" "_law_companies" s_law_companies f_law_companies fd_law_companies
  m_law_companies : mg "_law_companies" = some (.ref f_law_companies)
  b_law_companies : Binds K fd_law_companies [] []
  f_law_company : Addr
  fd_law_company : FuncData
  F_law_company : Fun K "_law_company" "_law_company" s_law_company f_law_company fd_law_company
  m_law_company : mg "_law_company" = some (.ref f_law_company)
  b_law_company : Binds K fd_law_company ["_law_pen_here", "_law_some"] []
  f_law_pen : Addr
  fd_law_pen : FuncData
  F_law_pen : Fun K "_law_pen" "_law_pen" s_law_pen f_law_pen fd_law_pen
  m_law_pen : mg "_law_pen" = some (.ref f_law_pen)
  b_law_pen : Binds K fd_law_pen ["_law_script"] []
  f_law_piece : Addr
  fd_law_piece : FuncData
  F_law_piece : Fun K "_law_piece" "_law_piece" s_law_piece f_law_piece fd_law_piece
  m_law_piece : mg "_law_piece" = some (.ref f_law_piece)
  b_law_piece : Binds K fd_law_piece ["_law_amount", "_law_cash", "_law_place", "_law_prime"] []
  f_law_pieces : Addr
  fd_law_pieces : FuncData
  F_law_pieces : Fun K "_law_pieces" "_law_pieces" s_law_pieces f_law_pieces fd_law_pieces
  m_law_pieces : mg "_law_pieces" = some (.ref f_law_pieces)
  b_law_pieces : Binds K fd_law_pieces ["_law_group", "_law_amount", "_law_cash"] []
  f_law_number : Addr
  fd_law_number : FuncData
  F_law_number : Fun K "_law_number" "_law_number" s_law_number f_law_number fd_law_number
  m_law_number : mg "_law_number" = some (.ref f_law_number)
  b_law_number : Binds K fd_law_number ["_law_item"] []
  f_law_same : Addr
  fd_law_same : FuncData
  F_law_same : Fun K "_law_same" "_law_same" s_law_same f_law_same fd_law_same
  m_law_same : mg "_law_same" = some (.ref f_law_same)
  b_law_same : Binds K fd_law_same ["_law_found", "_law_due"] []
  f_is_number : Addr
  fd_is_number : FuncData
  F_is_number : Fun K "is_number" "is_number" s_is_number f_is_number fd_is_number
  m_is_number : mg "is_number" = some (.ref f_is_number)
  b_is_number : Binds K fd_is_number ["thing"] []
  f_is_same : Addr
  fd_is_same : FuncData
  F_is_same : Fun K "is_same" "is_same" s_is_same f_is_same fd_is_same
  m_is_same : mg "is_same" = some (.ref f_is_same)
  b_is_same : Binds K fd_is_same ["thing", "due"] []
  f_turned : Addr
  fd_turned : FuncData
  F_turned : Fun K "turned" "turned" s_turned f_turned fd_turned
  m_turned : mg "turned" = some (.ref f_turned)
  b_turned : Binds K fd_turned ["number", "prime"] []
  f_with_nought : Addr
  fd_with_nought : FuncData
  F_with_nought : Fun K "with_nought" "with_nought" s_with_nought f_with_nought fd_with_nought
  m_with_nought : mg "with_nought" = some (.ref f_with_nought)
  b_with_nought : Binds K fd_with_nought ["curve", "place", "prime"] []
  f_worth : Addr
  fd_worth : FuncData
  F_worth : Fun K "worth" "worth" s_worth f_worth fd_worth
  m_worth : mg "worth" = some (.ref f_worth)
  b_worth : Binds K fd_worth ["curve", "x", "prime"] []
  f_through : Addr
  fd_through : FuncData
  F_through : Fun K "through" "through" s_through f_through fd_through
  m_through : mg "through" = some (.ref f_through)
  b_through : Binds K fd_through ["points", "prime"] []
  f_curve_of : Addr
  fd_curve_of : FuncData
  F_curve_of : Fun K "curve_of" "curve_of" s_curve_of f_curve_of fd_curve_of
  m_curve_of : mg "curve_of" = some (.ref f_curve_of)
  b_curve_of : Binds K fd_curve_of ["company", "hands", "pieces"] []
  f_lots_of : Addr
  fd_lots_of : FuncData
  F_lots_of : FunD K "lots_of" "lots_of" (defArgs s_lots_of) (defBody s_lots_of) (defScope s_lots_of) [(.int 0)] [] f_lots_of fd_lots_of
  m_lots_of : mg "lots_of" = some (.ref f_lots_of)
  bd_lots_of_2 : ∃ dus, Vals [(.int 0)] dus ∧ Binds K fd_lots_of ["many", "some", "least"] dus
  bd_lots_of_3 : ∃ dus, Vals [] dus ∧ Binds K fd_lots_of ["many", "some", "least"] dus
  f_off_hands : Addr
  fd_off_hands : FuncData
  F_off_hands : Fun K "off_hands" "off_hands" s_off_hands f_off_hands fd_off_hands
  m_off_hands : mg "off_hands" = some (.ref f_off_hands)
  b_off_hands : Binds K fd_off_hands ["company", "curve", "pieces"] []
  f_mended : Addr
  fd_mended : FuncData
  F_mended : Fun K "mended" "mended" s_mended f_mended fd_mended
  m_mended : mg "mended" = some (.ref f_mended)
  b_mended : Binds K fd_mended ["company", "pieces"] []
  f_is_mended : Addr
  fd_is_mended : FuncData
  F_is_mended : Fun K "is_mended" "is_mended" s_is_mended f_is_mended fd_is_mended
  m_is_mended : mg "is_mended" = some (.ref f_is_mended)
  b_is_mended : Binds K fd_is_mended ["thing", "company", "pieces"] []
  kb_is_mended_pieces_company_thing : KwBinds K fd_is_mended ["thing", "company", "pieces"] ["pieces", "company", "thing"] [2, 1, 0]
section
variable {P : Program} {w : World} {K : PySem.W.Frag} {mg : Str → Option Value} {base : Heap}
theorem ok_x_NoCurve (T : Txt K mg) : FnOk P w K mg base (L2.CX P w) 1 T.fx_NoCurve T.fdx_NoCurve ["self", "place"] (spXi K (cA K "NoCurve") "ValueError.__new__" [.type "ValueError", .type "Exception", .type "BaseException", .type "object"] "place") :=
  ok_xi (m := "a place twice") T.x_NoCurve.F scx_NoCurve (fun cdv A outer s H E => pss_cons (ps_expr (pe_binit (Bn := "ValueError") bx_ValueError rfl T.m_ValueError (by decide +kernel) T.v_ValueError (pa_cons (pv 0) (pa_cons pe_str pa_nil)) (by decide) (by decide))) (pss_one (ps_ostB bx_ValueError (pv 0) (pv 1))))
theorem ok_x_NoTurned (T : Txt K mg) : FnOk P w K mg base (L2.CX P w) 1 T.fx_NoTurned T.fdx_NoTurned ["self", "prime"] (spXi K (cA K "NoTurned") "ZeroDivisionError.__new__" [.type "ZeroDivisionError", .type "ArithmeticError", .type "Exception", .type "BaseException", .type "object"] "prime") :=
  ok_xi (m := "nought has no turned number") T.x_NoTurned.F scx_NoTurned (fun cdv A outer s H E => pss_cons (ps_expr (pe_binit (Bn := "ZeroDivisionError") bx_ZeroDivisionError rfl T.m_ZeroDivisionError (by decide +kernel) T.v_ZeroDivisionError (pa_cons (pv 0) (pa_cons pe_str pa_nil)) (by decide) (by decide))) (pss_one (ps_ostB bx_ZeroDivisionError (pv 0) (pv 1))))
theorem ok_law_fresh (T : Txt K mg) : FnF P w K mg base 1 T.f_law_fresh T.fd_law_fresh ["_law_pen_here"] F_law_fresh := by
  refine okN (t := t_law_fresh) (z := false) (FunD.of T.F_law_fresh) sc_law_fresh rfl rfl (fun cdv A outer s H E hr hg W tk => ?_)
  exact (ss_cons (s_set 1 sc_law_fresh.nd (d_ix (hu_of hr) (d_v 0) d_int))
    (ss_cons (s_asg (vs := []) (d_add false (d_v 1) d_int) (g_sub (hu_of hr) (d_v 0) d_int))
    (ss_cons (s_set 2 sc_law_fresh.nd d_int)
    (ss_cons (s_if (t_cmp (op_neU hr.units) r2_ne (d_ix (hu_of hr) (d_v 0) d_int) (d_lst false a_nil) (nomark _)) (ss_one (s_set 2 sc_law_fresh.nd (d_ix (hu_of hr) (d_ix (hu_of hr) (d_v 0) d_int) (d_mod (d_v 1) (d_callB call_lenV rl_len T.m_len (by decide +kernel) (a_cons (d_ix (hu_of hr) (d_v 0) d_int) a_nil)))))) ss_nil)
    (ss_cons (s_if (PW.pt (w_and (t_cmp op_lt r2_lt (d_v 1) (d_callB call_lenV rl_len T.m_len (by decide +kernel) (a_cons (d_ix (hu_of hr) (d_v 0) d_int) a_nil)) (nomark _)) (w_and1 (t_cmp op_ge r2_ge (d_v 2) (d_pow d_int d_int) (nomark _))))) (ss_one (s_ret (d_sub (d_v 2) (d_pow d_int d_int)))) ss_nil)
    (ss_cons (s_set 3 sc_law_fresh.nd d_int)
    (ss_cons (s_set 4 sc_law_fresh.nd (d_mod (d_add false (d_add false (d_mul false (d_v 2) d_int) (d_mul false d_int (d_v 1))) d_int) (d_v 3)))
    (ss_cons (s_set 5 sc_law_fresh.nd (d_v 4))
    (ss_cons (s_for [0, 6] (vs := [6]) (passes_of rfl) rfl (i_rg1 T.m_range (a_cons d_int a_nil)) (g_name 6 sc_law_fresh.nd) (ss_wipe [0, 6] (ss_cons (s_set 4 sc_law_fresh.nd (d_mod (d_add false (d_add false (d_mul false (d_v 4) (d_v 4)) (d_mul false (d_mul false d_int (d_add false (d_v 6) d_int)) (d_add false (d_v 1) d_int))) (d_v 2)) (d_v 3)))
    (ss_one (s_set 5 sc_law_fresh.nd (d_add false (d_mul false (d_v 5) (d_v 3)) (d_v 4)))))))
    (ss_one (s_ret (d_v 5))))))))))))
theorem ok_law_draw (T : Txt K mg) : FnF P w K mg base 2 T.f_law_draw T.fd_law_draw ["_law_pen_here", "_law_many"] F_law_draw := by
  refine okN (t := t_law_draw) (z := false) (FunD.of T.F_law_draw) sc_law_draw rfl rfl (fun cdv A outer s H E hr hg W tk => ?_)
  exact (ss_cons (s_if (t_cmp op_lt r2_lt (d_ix (hu_of hr) (d_v 0) d_int) (d_v 1) (nomark _)) (ss_one (s_asg (vs := []) (d_call (ds := []) (ok_law_fresh T) (hr.mono (by decide)) hg tk T.m_law_fresh T.F_law_fresh.kp T.b_law_fresh .nil no_vrs (a_cons (d_v 0) a_nil)) (g_sub (hu_of hr) (d_v 0) d_int))) ss_nil)
    (ss_cons (s_set 2 sc_law_draw.nd (d_mod (d_ix (hu_of hr) (d_v 0) d_int) (d_v 1)))
    (ss_cons (s_asg (vs := []) (d_div (d_ix (hu_of hr) (d_v 0) d_int) (d_v 1)) (g_sub (hu_of hr) (d_v 0) d_int))
    (ss_one (s_ret (d_v 2))))))
theorem ok_law_bent_row (T : Txt K mg) : FnF P w K mg base 3 T.f_law_bent_row T.fd_law_bent_row ["_law_pen_here", "_law_row"] F_law_bent_row := by
  refine okN (t := t_law_bent_row) (z := false) (FunD.of T.F_law_bent_row) sc_law_bent_row rfl rfl (fun cdv A outer s H E hr hg W tk => ?_)
  exact (ss_cons (s_asg (vs := [2, 3]) (d_v 1) (g_tup rfl (g_cons (g_name 2 sc_law_bent_row.nd) (g_cons (g_name 3 sc_law_bent_row.nd) g_nil))))
    (ss_cons (s_set 4 sc_law_bent_row.nd (d_call (ds := []) (ok_law_draw T) (hr.mono (by decide)) hg tk T.m_law_draw T.F_law_draw.kp T.b_law_draw .nil no_vrs (a_cons (d_v 0) (a_cons d_int a_nil))))
    (ss_cons (s_if (t_cmp (op_eqU hr.units) r2_eq (d_v 4) d_int (nomark _)) (ss_one (s_ret (d_tup (a_cons (d_v 2) (a_cons (d_rev false (d_v 3)) a_nil))))) ss_nil)
    (ss_cons (s_if (t_cmp (op_eqU hr.units) r2_eq (d_v 4) d_int (nomark _)) (ss_one (s_ret (d_tup (a_cons (d_v 2) (a_cons (d_add false (d_v 3) (d_tup (a_cons d_int a_nil))) a_nil))))) ss_nil)
    (ss_cons (s_if (t_cmp (op_eqU hr.units) r2_eq (d_v 4) d_int (nomark _)) (ss_one (s_ret (d_tup (a_cons (d_callT call_list_of (rl_list false) T.m_list (by decide +kernel) (a_cons (d_v 2) a_nil)) (a_cons (d_v 3) a_nil))))) ss_nil)
    (ss_cons (s_if (t_cmp (op_eqU hr.units) r2_eq (d_v 4) d_int (nomark _)) (ss_one (s_ret (d_tup (a_cons (d_v 2) (a_cons (d_callT call_list_of (rl_list false) T.m_list (by decide +kernel) (a_cons (d_v 3) a_nil)) a_nil))))) ss_nil)
    (ss_cons (s_if (t_cmp (op_eqU hr.units) r2_eq (d_v 4) d_int (nomark _)) (ss_one (s_ret (d_tup (a_cons (d_add false (d_sl false (d_v 2) (o_some d_int) o_none) (d_tup (a_cons d_int a_nil))) (a_cons (d_v 3) a_nil))))) ss_nil)
    (ss_cons (s_set 5 sc_law_bent_row.nd (d_lst false (a_cons (d_v 1) (a_cons (d_tup (a_cons (d_v 2) a_nil)) (a_cons (d_tup (a_cons (d_v 2) (a_cons (d_v 3) (a_cons d_int a_nil)))) (a_cons (d_tup (a_cons (d_v 3) (a_cons (d_v 2) a_nil))) (a_cons (d_tup (a_cons (d_v 2) (a_cons (d_callT call_tuple_of rl_tuple T.m_tuple (by decide +kernel) (a_cons (d_lc false [("_law_hand", 6)] rfl sc_law_bent_row.nd (i_seq (d_v 3)) (blkOk_by (own := [("_law_hand", 6)]) (N := ["_law_pen_here", "_law_row", "_law_lot", "_law_off", "_law_form", "_law_some", "_law_hand"]) (sc := defScope s_law_bent_row) (by decide +kernel)) (fun _ _ _ _ _ => (g_name 6 sc_law_bent_row.nd)) (fun _ _ _ _ _ => ts_nil) (fun _ _ _ _ _ => (d_cmp (op_eqU hr.units) r2_eq (d_v 6) d_int (nomark _)))) a_nil)) a_nil))) (a_cons (d_callT call_list_of (rl_list false) T.m_list (by decide +kernel) (a_cons (d_v 1) a_nil)) (a_cons (d_lst false (a_cons (d_v 1) a_nil)) a_nil)))))))))
    (ss_one (s_ret (d_ix (hu_of hr) (d_v 5) (d_call (ds := []) (ok_law_draw T) (hr.mono (by decide)) hg tk T.m_law_draw T.F_law_draw.kp T.b_law_draw .nil no_vrs (a_cons (d_v 0) (a_cons d_int a_nil))))))))))))))
theorem ok_law_bent_cover (T : Txt K mg) : FnF P w K mg base 4 T.f_law_bent_cover T.fd_law_bent_cover ["_law_pen_here", "_law_cover"] F_law_bent_cover := by
  refine okN (t := t_law_bent_cover) (z := false) (FunD.of T.F_law_bent_cover) sc_law_bent_cover rfl rfl (fun cdv A outer s H E hr hg W tk => ?_)
  exact (ss_cons (s_set 2 sc_law_bent_cover.nd (d_call (ds := []) (ok_law_draw T) (hr.mono (by decide)) hg tk T.m_law_draw T.F_law_draw.kp T.b_law_draw .nil no_vrs (a_cons (d_v 0) (a_cons (d_callB call_lenV rl_len T.m_len (by decide +kernel) (a_cons (d_v 1) a_nil)) a_nil))))
    (ss_cons (s_set 3 sc_law_bent_cover.nd (d_call (ds := []) (ok_law_draw T) (hr.mono (by decide)) hg tk T.m_law_draw T.F_law_draw.kp T.b_law_draw .nil no_vrs (a_cons (d_v 0) (a_cons d_int a_nil))))
    (ss_cons (s_if (t_cmp (op_eqU hr.units) r2_eq (d_v 3) d_int (nomark _)) (ss_one (s_ret (d_add false (d_sl false (d_v 1) o_none (o_some (d_v 2))) (d_sl false (d_v 1) (o_some (d_add false (d_v 2) d_int)) o_none)))) ss_nil)
    (ss_cons (s_if (t_cmp (op_eqU hr.units) r2_eq (d_v 3) d_int (nomark _)) (ss_one (s_ret (d_add false (d_sl false (d_v 1) o_none (o_some (d_add false (d_v 2) d_int))) (d_sl false (d_v 1) (o_some (d_v 2)) o_none)))) ss_nil)
    (ss_cons (s_if (t_cmp (op_eqU hr.units) r2_eq (d_v 3) d_int (nomark _)) (ss_one (s_ret (d_rev false (d_v 1)))) ss_nil)
    (ss_cons (s_if (t_cmp (op_eqU hr.units) r2_eq (d_v 3) d_int (nomark _)) (ss_one (s_ret (d_callT call_tuple_of rl_tuple T.m_tuple (by decide +kernel) (a_cons (d_v 1) a_nil)))) ss_nil)
    (ss_one (s_ret (d_add false (d_add false (d_sl false (d_v 1) o_none (o_some (d_v 2))) (d_lst false (a_cons (d_call (ds := []) (ok_law_bent_row T) (hr.mono (by decide)) hg tk T.m_law_bent_row T.F_law_bent_row.kp T.b_law_bent_row .nil no_vrs (a_cons (d_v 0) (a_cons (d_ix (hu_of hr) (d_v 1) (d_v 2)) a_nil))) a_nil))) (d_sl false (d_v 1) (o_some (d_add false (d_v 2) d_int)) o_none))))))))))
theorem ok_law_bent (T : Txt K mg) : FnF P w K mg base 5 T.f_law_bent T.fd_law_bent ["_law_pen_here", "_law_good", "_law_prime"] F_law_bent := by
  refine okN (t := t_law_bent) (z := false) (FunD.of T.F_law_bent) sc_law_bent rfl rfl (fun cdv A outer s H E hr hg W tk => ?_)
  exact (ss_cons (s_set 3 sc_law_bent.nd (d_lst false (a_cons d_non (a_cons d_bl (a_cons d_bl (a_cons d_int (a_cons d_str (a_cons (d_tup a_nil) (a_cons (d_lst false a_nil) (a_cons d_dictZ (a_cons (d_tup (a_cons d_str (a_cons (d_lst false a_nil) a_nil))) (a_cons (d_tup (a_cons d_str (a_cons d_int (a_cons (d_tup a_nil) a_nil)))) (a_cons (d_tup (a_cons d_str (a_cons d_int (a_cons (d_tup (a_cons d_int a_nil)) a_nil)))) a_nil)))))))))))))
    (ss_cons (s_set 4 sc_law_bent.nd (d_ix (hu_of hr) (d_v 3) (d_call (ds := []) (ok_law_draw T) (hr.mono (by decide)) hg tk T.m_law_draw T.F_law_draw.kp T.b_law_draw .nil no_vrs (a_cons (d_v 0) (a_cons d_int a_nil)))))
    (ss_cons (s_set 5 sc_law_bent.nd (d_call (ds := []) (ok_law_draw T) (hr.mono (by decide)) hg tk T.m_law_draw T.F_law_draw.kp T.b_law_draw .nil no_vrs (a_cons (d_v 0) (a_cons d_int a_nil))))
    (ss_cons (s_if (t_cmp (op_eqU hr.units) r2_eq (d_v 5) d_int (nomark _)) (ss_one (s_ret (d_v 4))) ss_nil)
    (ss_cons (s_if (t_cmp (op_eqU hr.units) r2_eq (d_v 5) d_int (nomark _)) (ss_cons (s_set 6 sc_law_bent.nd (d_lst false (a_cons (d_callT call_list_of (rl_list false) T.m_list (by decide +kernel) (a_cons (d_v 1) a_nil)) (a_cons (d_sl false (d_v 1) o_none (o_some d_int)) (a_cons (d_add false (d_v 1) (d_tup (a_cons (d_v 4) a_nil))) (a_cons (d_add false (d_tup (a_cons (d_v 4) a_nil)) (d_sl false (d_v 1) (o_some d_int) o_none)) (a_cons (d_add false (d_add false (d_sl false (d_v 1) o_none (o_some d_int)) (d_tup (a_cons (d_v 4) a_nil))) (d_sl false (d_v 1) (o_some d_int) o_none)) a_nil)))))))
    (ss_one (s_ret (d_ix (hu_of hr) (d_v 6) (d_call (ds := []) (ok_law_draw T) (hr.mono (by decide)) hg tk T.m_law_draw T.F_law_draw.kp T.b_law_draw .nil no_vrs (a_cons (d_v 0) (a_cons d_int a_nil))))))) ss_nil)
    (ss_cons (s_if (t_cmp (op_eqU hr.units) r2_eq (d_v 5) d_int (nomark _)) (ss_one (s_ret (d_add false (d_tup (a_cons (d_ix (hu_of hr) (d_lst false (a_cons (d_upper (d_ix (hu_of hr) (d_v 1) d_int)) (a_cons d_str (a_cons d_str a_nil)))) (d_call (ds := []) (ok_law_draw T) (hr.mono (by decide)) hg tk T.m_law_draw T.F_law_draw.kp T.b_law_draw .nil no_vrs (a_cons (d_v 0) (a_cons d_int a_nil)))) a_nil)) (d_sl false (d_v 1) (o_some d_int) o_none)))) ss_nil)
    (ss_cons (s_if (t_cmp (op_eqU hr.units) r2_eq (d_ix (hu_of hr) (d_v 1) d_int) d_str (nomark _)) (ss_one (s_ret (d_tup (a_cons d_str (a_cons (d_call (ds := []) (ok_law_bent_cover T) (hr.mono (by decide)) hg tk T.m_law_bent_cover T.F_law_bent_cover.kp T.b_law_bent_cover .nil no_vrs (a_cons (d_v 0) (a_cons (d_ix (hu_of hr) (d_v 1) d_int) a_nil))) a_nil))))) ss_nil)
    (ss_cons (s_asg (vs := [7, 8, 9]) (d_v 1) (g_tup rfl (g_cons (g_name 7 sc_law_bent.nd) (g_cons (g_name 8 sc_law_bent.nd) (g_cons (g_name 9 sc_law_bent.nd) g_nil)))))
    (ss_cons (s_if (t_cmp op_lt r2_lt (d_v 5) d_int (nomark _)) (ss_cons (s_set 6 sc_law_bent.nd (d_lst false (a_cons (d_add false (d_v 9) (d_tup (a_cons d_int a_nil))) (a_cons (d_sl false (d_v 9) (o_some d_int) o_none) (a_cons (d_rev false (d_v 9)) (a_cons (d_callT call_list_of (rl_list false) T.m_list (by decide +kernel) (a_cons (d_v 9) a_nil)) (a_cons (d_add false (d_v 9) (d_v 9)) (a_cons (d_tup (a_cons d_int a_nil)) (a_cons (d_callT call_tuple_of rl_tuple T.m_tuple (by decide +kernel) (a_cons (d_lc false [("_law_hand", 10)] rfl sc_law_bent.nd (i_seq (d_v 9)) (blkOk_by (own := [("_law_hand", 10)]) (N := ["_law_pen_here", "_law_good", "_law_prime", "_law_things", "_law_odd", "_law_form", "_law_some", "_law_word", "_law_much", "_law_off", "_law_hand"]) (sc := defScope s_law_bent) (by decide +kernel)) (fun _ _ _ _ _ => (g_name 10 sc_law_bent.nd)) (fun _ _ _ _ _ => ts_nil) (fun _ _ _ _ _ => (d_cmp (op_eqU hr.units) r2_eq (d_v 10) d_int (nomark _)))) a_nil)) a_nil)))))))))
    (ss_one (s_ret (d_tup (a_cons (d_v 7) (a_cons (d_v 8) (a_cons (d_ix (hu_of hr) (d_v 6) (d_call (ds := []) (ok_law_draw T) (hr.mono (by decide)) hg tk T.m_law_draw T.F_law_draw.kp T.b_law_draw .nil no_vrs (a_cons (d_v 0) (a_cons d_int a_nil)))) a_nil))))))) ss_nil)
    (ss_one (s_ret (d_tup (a_cons (d_v 7) (a_cons (d_ix (hu_of hr) (d_lst false (a_cons (d_mod (d_add false (d_v 8) d_int) (d_v 2)) (a_cons (d_add false (d_v 8) (d_v 2)) (a_cons (d_neg (d_v 8)) (a_cons (d_cmp (op_eqU hr.units) r2_eq (d_v 8) d_int (nomark _)) (a_cons (d_tup (a_cons (d_v 8) a_nil)) a_nil)))))) (d_call (ds := []) (ok_law_draw T) (hr.mono (by decide)) hg tk T.m_law_draw T.F_law_draw.kp T.b_law_draw .nil no_vrs (a_cons (d_v 0) (a_cons d_int a_nil)))) (a_cons (d_v 9) a_nil)))))))))))))))
theorem ok_law_coins (T : Txt K mg) : FnF P w K mg base 3 T.f_law_coins T.fd_law_coins ["_law_pen_here", "_law_prime", "_law_many"] F_law_coins := by
  refine okN (t := t_law_coins) (z := false) (FunD.of T.F_law_coins) sc_law_coins rfl rfl (fun cdv A outer s H E hr hg W tk => ?_)
  exact (ss_one (s_ret (d_callT call_tuple_of rl_tuple T.m_tuple (by decide +kernel) (a_cons (d_lc false [("_law_k", 3)] rfl sc_law_coins.nd (i_rg1 T.m_range (a_cons (d_v 2) a_nil)) (blkOk_by (own := [("_law_k", 3)]) (N := ["_law_pen_here", "_law_prime", "_law_many", "_law_k"]) (sc := defScope s_law_coins) (by decide +kernel)) (fun _ _ _ _ _ => (g_name 3 sc_law_coins.nd)) (fun _ _ _ _ _ => ts_nil) (fun _ _ _ _ _ => (d_call (ds := []) (ok_law_draw T) (hr.mono (by decide)) hg takes_none T.m_law_draw T.F_law_draw.kp T.b_law_draw .nil no_vrs (a_cons (d_v 0) (a_cons (d_v 1) a_nil))))) a_nil))))
theorem ok_law_companies (T : Txt K mg) : FnF P w K mg base 1 T.f_law_companies T.fd_law_companies [] F_law_companies := by
  refine okN (t := t_law_companies) (z := false) (FunD.of T.F_law_companies) sc_law_companies rfl rfl (fun cdv A outer s H E hr hg W tk => ?_)
  exact (ss_one (s_ret (d_lst false (a_cons (d_tup (a_cons d_int (a_cons d_int (a_cons d_int a_nil)))) (a_cons (d_tup (a_cons d_int (a_cons d_int (a_cons d_int a_nil)))) (a_cons (d_tup (a_cons d_int (a_cons d_int (a_cons d_int a_nil)))) (a_cons (d_tup (a_cons d_int (a_cons d_int (a_cons d_int a_nil)))) (a_cons (d_tup (a_cons d_int (a_cons d_int (a_cons d_int a_nil)))) (a_cons (d_tup (a_cons d_int (a_cons d_int (a_cons d_int a_nil)))) (a_cons (d_tup (a_cons d_int (a_cons d_int (a_cons d_int a_nil)))) (a_cons (d_tup (a_cons d_int (a_cons d_int (a_cons d_int a_nil)))) (a_cons (d_tup (a_cons d_int (a_cons d_int (a_cons d_int a_nil)))) a_nil))))))))))))
theorem ok_law_company (T : Txt K mg) : FnF P w K mg base 3 T.f_law_company T.fd_law_company ["_law_pen_here", "_law_some"] F_law_company := by
  refine okN (t := t_law_company) (z := false) (FunD.of T.F_law_company) sc_law_company rfl rfl (fun cdv A outer s H E hr hg W tk => ?_)
  exact (ss_one (s_ret (d_ix (hu_of hr) (d_v 1) (d_call (ds := []) (ok_law_draw T) (hr.mono (by decide)) hg tk T.m_law_draw T.F_law_draw.kp T.b_law_draw .nil no_vrs (a_cons (d_v 0) (a_cons (d_callB call_lenV rl_len T.m_len (by decide +kernel) (a_cons (d_v 1) a_nil)) a_nil))))))
theorem ok_law_pen (T : Txt K mg) : FnF P w K mg base 1 T.f_law_pen T.fd_law_pen ["_law_script"] F_law_pen := by
  refine okN (t := t_law_pen) (z := false) (FunD.of T.F_law_pen) sc_law_pen rfl rfl (fun cdv A outer s H E hr hg W tk => ?_)
  exact (ss_one (s_ret (d_lst true (a_cons (d_callT call_list_of (rl_list false) T.m_list (by decide +kernel) (a_cons (d_sl false (d_v 0) o_none (o_some d_int)) a_nil)) (a_cons d_int (a_cons d_int a_nil))))))
theorem ok_law_piece (T : Txt K mg) : FnF P w K mg base 1 T.f_law_piece T.fd_law_piece ["_law_amount", "_law_cash", "_law_place", "_law_prime"] F_law_piece := by
  refine okN (t := t_law_piece) (z := false) (FunD.of T.F_law_piece) sc_law_piece rfl rfl (fun cdv A outer s H E hr hg W tk => ?_)
  exact (ss_cons (s_set 4 sc_law_piece.nd d_int)
    (ss_cons (s_for [1, 5] (vs := [5]) (passes_of rfl) rfl (i_seq (d_rev false (d_v 1))) (g_name 5 sc_law_piece.nd) (ss_wipe [1, 5] (ss_one (s_set 4 sc_law_piece.nd (d_mod (d_add false (d_mul false (d_v 4) (d_v 2)) (d_v 5)) (d_v 3))))))
    (ss_one (s_ret (d_mod (d_add false (d_mul false (d_v 4) (d_v 2)) (d_v 0)) (d_v 3))))))
theorem ok_law_pieces (T : Txt K mg) : FnF P w K mg base 2 T.f_law_pieces T.fd_law_pieces ["_law_group", "_law_amount", "_law_cash"] F_law_pieces := by
  refine okN (t := t_law_pieces) (z := false) (FunD.of T.F_law_pieces) sc_law_pieces rfl rfl (fun cdv A outer s H E hr hg W tk => ?_)
  exact (ss_one (s_ret (d_callT call_tuple_of rl_tuple T.m_tuple (by decide +kernel) (a_cons (d_lc false [("_law_hand", 3)] rfl sc_law_pieces.nd (i_rg1 T.m_range (a_cons (d_ix (hu_of hr) (d_v 0) d_int) a_nil)) (blkOk_by (own := [("_law_hand", 3)]) (N := ["_law_group", "_law_amount", "_law_cash", "_law_hand"]) (sc := defScope s_law_pieces) (by decide +kernel)) (fun _ _ _ _ _ => (g_name 3 sc_law_pieces.nd)) (fun _ _ _ _ _ => ts_nil) (fun _ _ _ _ _ => (d_call (ds := []) (ok_law_piece T) (hr.mono (by decide)) hg takes_none T.m_law_piece T.F_law_piece.kp T.b_law_piece .nil no_vrs (a_cons (d_v 1) (a_cons (d_v 2) (a_cons (d_add false (d_v 3) d_int) (a_cons (d_ix (hu_of hr) (d_v 0) d_int) a_nil))))))) a_nil))))
theorem ok_law_number (T : Txt K mg) : FnF P w K mg base 1 T.f_law_number T.fd_law_number ["_law_item"] F_law_number := by
  refine okN (t := t_law_number) (z := false) (FunD.of T.F_law_number) sc_law_number rfl rfl (fun cdv A outer s H E hr hg W tk => ?_)
  exact (ss_one (s_ret (d_and (d_isi .int T.m_isinstance T.m_int (by decide +kernel) (d_v 0)) (d_one (d_not (d_isi .bool T.m_isinstance T.m_bool (by decide +kernel) (d_v 0)))))))
theorem ok_law_same (T : Txt K mg) : ∀ n : Nat, FnF P w K mg base (2 + n) T.f_law_same T.fd_law_same ["_law_found", "_law_due"] (F_law_same n)
  | 0 => FnF.none
  | n + 1 => by
    have ih := ok_law_same T n
    refine okN (lv := 2 + n) (t := t_law_same (F_law_same n)) (z := false) (FunD.of T.F_law_same) sc_law_same rfl rfl (fun cdv A outer s H E hr hg W tk => ?_)
    exact (ss_cons (s_if (t_cmp op_isN r2_isN (d_v 1) d_non (nomark _)) (ss_one (s_ret (d_cmp op_isN r2_isN (d_v 0) d_non (nomark _)))) ss_nil)
    (ss_cons (s_if (t_val (d_isi .bool T.m_isinstance T.m_bool (by decide +kernel) (d_v 1))) (ss_one (s_ret (d_and (d_isi .bool T.m_isinstance T.m_bool (by decide +kernel) (d_v 0)) (d_one (d_cmp (op_eqU hr.units) r2_eq (d_v 0) (d_v 1) (nomark _)))))) ss_nil)
    (ss_cons (s_if (t_val (d_isi .int T.m_isinstance T.m_int (by decide +kernel) (d_v 1))) (ss_one (s_ret (d_and (d_call (ds := []) (ok_law_number T) (hr.mono (by omega)) hg tk T.m_law_number T.F_law_number.kp T.b_law_number .nil no_vrs (a_cons (d_v 0) a_nil)) (d_one (d_cmp (op_eqU hr.units) r2_eq (d_v 0) (d_v 1) (nomark _)))))) ss_nil)
    (ss_cons (s_if (t_val (d_isi .str T.m_isinstance T.m_str (by decide +kernel) (d_v 1))) (ss_one (s_ret (d_and (d_isi .str T.m_isinstance T.m_str (by decide +kernel) (d_v 0)) (d_one (d_cmp (op_eqU hr.units) r2_eq (d_v 0) (d_v 1) (nomark _)))))) ss_nil)
    (ss_cons (s_if (t_val (d_isi .dict T.m_isinstance T.m_dict (by decide +kernel) (d_v 1))) (ss_cons (s_if (PW.pt (w_or (t_not (t_val (d_isi .dict T.m_isinstance T.m_dict (by decide +kernel) (d_v 0)))) (w_or1 (t_cmp (op_neU hr.units) r2_ne (d_callB (cr_sortedU rfl) (rl_sorted false) T.m_sorted (by decide +kernel) (a_cons (d_v 0) a_nil)) (d_callB (cr_sortedU rfl) (rl_sorted false) T.m_sorted (by decide +kernel) (a_cons (d_v 1) a_nil)) (nomark _))))) (ss_one (s_ret d_bl)) ss_nil)
    (ss_one (s_ret (d_callB (cr_all rfl) rl_all T.m_all (by decide +kernel) (a_cons (d_lc false [("_law_key", 2)] rfl sc_law_same.nd (i_seq (d_v 1)) (blkOk_by (own := [("_law_key", 2)]) (N := ["_law_found", "_law_due", "_law_key", "_law_one", "_law_other"]) (sc := defScope s_law_same) (by decide +kernel)) (fun _ _ _ _ _ => (g_name 2 sc_law_same.nd)) (fun _ _ _ _ _ => ts_nil) (fun _ _ _ _ _ => (d_call (ds := []) ih (hr.mono (by omega)) hg takes_none T.m_law_same T.F_law_same.kp T.b_law_same .nil no_vrs (a_cons (d_ix (hu_of hr) (d_v 0) (d_v 2)) (a_cons (d_ix (hu_of hr) (d_v 1) (d_v 2)) a_nil))))) a_nil))))) ss_nil)
    (ss_cons (s_if (PW.pt (w_or (t_cmp (op_neU hr.units) r2_ne (d_isi .tuple T.m_isinstance T.m_tuple (by decide +kernel) (d_v 1)) (d_isi .tuple T.m_isinstance T.m_tuple (by decide +kernel) (d_v 0)) (nomark _)) (w_or1 (t_cmp (op_neU hr.units) r2_ne (d_isi .list T.m_isinstance T.m_list (by decide +kernel) (d_v 1)) (d_isi .list T.m_isinstance T.m_list (by decide +kernel) (d_v 0)) (nomark _))))) (ss_one (s_ret d_bl)) ss_nil)
    (ss_one (s_ret (d_and (d_cmp (op_eqU hr.units) r2_eq (d_callB call_lenV rl_len T.m_len (by decide +kernel) (a_cons (d_v 0) a_nil)) (d_callB call_lenV rl_len T.m_len (by decide +kernel) (a_cons (d_v 1) a_nil)) (nomark _)) (d_one (d_callB (cr_all rfl) rl_all T.m_all (by decide +kernel) (a_cons (d_lc false [("_law_one", 3), ("_law_other", 4)] rfl sc_law_same.nd (i_zip T.m_zip (a_cons (d_v 0) (a_cons (d_v 1) a_nil))) (blkOk_by (own := [("_law_one", 3), ("_law_other", 4)]) (N := ["_law_found", "_law_due", "_law_key", "_law_one", "_law_other"]) (sc := defScope s_law_same) (by decide +kernel)) (fun _ _ _ _ _ => (g_tup rfl (g_cons (g_name 3 sc_law_same.nd) (g_cons (g_name 4 sc_law_same.nd) g_nil)))) (fun _ _ _ _ _ => ts_nil) (fun _ _ _ _ _ => (d_call (ds := []) ih (hr.mono (by omega)) hg takes_none T.m_law_same T.F_law_same.kp T.b_law_same .nil no_vrs (a_cons (d_v 3) (a_cons (d_v 4) a_nil))))) a_nil))))))))))))
theorem ok_is_number (T : Txt K mg) : FnF P w K mg base 1 T.f_is_number T.fd_is_number ["thing"] F_is_number := by
  refine okN (t := t_is_number) (z := false) (FunD.of T.F_is_number) sc_is_number rfl rfl (fun cdv A outer s H E hr hg W tk => ?_)
  exact (ss_one (s_ret (d_and (d_isi .int T.m_isinstance T.m_int (by decide +kernel) (d_v 0)) (d_one (d_not (d_isi .bool T.m_isinstance T.m_bool (by decide +kernel) (d_v 0)))))))
theorem ok_is_same (T : Txt K mg) : ∀ n : Nat, FnF P w K mg base (2 + n) T.f_is_same T.fd_is_same ["thing", "due"] (F_is_same n)
  | 0 => FnF.none
  | n + 1 => by
    have ih := ok_is_same T n
    refine okN (lv := 2 + n) (t := t_is_same (F_is_same n)) (z := false) (FunD.of T.F_is_same) sc_is_same rfl rfl (fun cdv A outer s H E hr hg W tk => ?_)
    exact (ss_cons (s_if (t_val (d_isi .str T.m_isinstance T.m_str (by decide +kernel) (d_v 1))) (ss_one (s_ret (d_and (d_isi .str T.m_isinstance T.m_str (by decide +kernel) (d_v 0)) (d_one (d_cmp (op_eqU hr.units) r2_eq (d_v 0) (d_v 1) (nomark _)))))) ss_nil)
    (ss_cons (s_if (t_val (d_call (ds := []) (ok_is_number T) (hr.mono (by omega)) hg tk T.m_is_number T.F_is_number.kp T.b_is_number .nil no_vrs (a_cons (d_v 1) a_nil))) (ss_one (s_ret (d_and (d_call (ds := []) (ok_is_number T) (hr.mono (by omega)) hg tk T.m_is_number T.F_is_number.kp T.b_is_number .nil no_vrs (a_cons (d_v 0) a_nil)) (d_one (d_cmp (op_eqU hr.units) r2_eq (d_v 0) (d_v 1) (nomark _)))))) ss_nil)
    (ss_cons (s_if (PW.pt (w_or (t_cmp (op_neU hr.units) r2_ne (d_isi .tuple T.m_isinstance T.m_tuple (by decide +kernel) (d_v 0)) (d_isi .tuple T.m_isinstance T.m_tuple (by decide +kernel) (d_v 1)) (nomark _)) (w_or1 (t_cmp (op_neU hr.units) r2_ne (d_isi .list T.m_isinstance T.m_list (by decide +kernel) (d_v 0)) (d_isi .list T.m_isinstance T.m_list (by decide +kernel) (d_v 1)) (nomark _))))) (ss_one (s_ret d_bl)) ss_nil)
    (ss_one (s_ret (d_and (d_cmp (op_eqU hr.units) r2_eq (d_callB call_lenV rl_len T.m_len (by decide +kernel) (a_cons (d_v 0) a_nil)) (d_callB call_lenV rl_len T.m_len (by decide +kernel) (a_cons (d_v 1) a_nil)) (nomark _)) (d_one (d_callB (cr_all rfl) rl_all T.m_all (by decide +kernel) (a_cons (d_lc false [("one", 2), ("other", 3)] rfl sc_is_same.nd (i_zipS T.m_zip (a_cons (d_v 0) (a_cons (d_v 1) a_nil))) (blkOk_by (own := [("one", 2), ("other", 3)]) (N := ["thing", "due", "one", "other"]) (sc := defScope s_is_same) (by decide +kernel)) (fun _ _ _ _ _ => (g_tup rfl (g_cons (g_name 2 sc_is_same.nd) (g_cons (g_name 3 sc_is_same.nd) g_nil)))) (fun _ _ _ _ _ => ts_nil) (fun _ _ _ _ _ => (d_call (ds := []) ih (hr.mono (by omega)) hg takes_none T.m_is_same T.F_is_same.kp T.b_is_same .nil no_vrs (a_cons (d_v 2) (a_cons (d_v 3) a_nil))))) a_nil)))))))))
theorem ok_turned (T : Txt K mg) : FnF P w K mg base 3 T.f_turned T.fd_turned ["number", "prime"] F_turned := by
  refine okN (t := t_turned) (z := false) (FunD.of T.F_turned) sc_turned rfl rfl (fun cdv A outer s H E hr hg W tk => ?_)
  exact (ss_cons (s_if (t_cmp (op_eqU hr.units) r2_eq (d_v 0) d_int (nomark _)) (ss_one (s_raise rfl tk (m_mk1 bx_ZeroDivisionError T.x_NoTurned (ok_x_NoTurned T) (hr.mono (by decide)) (a_cons (d_v 1) a_nil)))) ss_nil)
    (ss_one (s_ret (d_ix (hu_of hr) (d_lc false [("other", 2)] rfl sc_turned.nd (i_rg2 T.m_range (a_cons d_int (a_cons (d_v 1) a_nil))) (blkOk_by (own := [("other", 2)]) (N := ["number", "prime", "other"]) (sc := defScope s_turned) (by decide +kernel)) (fun _ _ _ _ _ => (g_name 2 sc_turned.nd)) (fun _ _ _ _ _ => (ts_one (t_cmp (op_eqU hr.units) r2_eq (d_mod (d_mul false (d_v 0) (d_v 2)) (d_v 1)) d_int (nomark _)))) (fun _ _ _ _ _ => (d_v 2))) d_int))))
theorem ok_with_nought (T : Txt K mg) : FnF P w K mg base 1 T.f_with_nought T.fd_with_nought ["curve", "place", "prime"] F_with_nought := by
  refine okN (t := t_with_nought) (z := true) (FunD.of T.F_with_nought) sc_with_nought rfl rfl (fun cdv A outer s H E hr hg W tk => ?_)
  exact (ss_cons (s_set 3 sc_with_nought.nd (d_add true (d_lst false (a_cons d_int a_nil)) (d_callT call_list_of (rl_list false) T.m_list (by decide +kernel) (a_cons (d_v 0) a_nil))))
    (ss_cons (s_for [0, 4, 5] (vs := [4, 5]) (passes_of rfl) rfl (i_enum T.m_enumerate (a_cons (d_v 0) a_nil)) (g_tup rfl (g_cons (g_name 4 sc_with_nought.nd) (g_cons (g_name 5 sc_with_nought.nd) g_nil))) (ss_wipe [0, 4, 5] (ss_one (s_asg (vs := []) (d_mod (d_sub (d_ix (hu_of hr) (d_v 3) (d_v 4)) (d_mul false (d_v 5) (d_v 1))) (d_v 2)) (g_sub (hu_of hr) (d_v 3) (d_v 4))))))
    (ss_one (s_ret (d_v 3)))))
theorem ok_worth (T : Txt K mg) : FnF P w K mg base 1 T.f_worth T.fd_worth ["curve", "x", "prime"] F_worth := by
  refine okN (t := t_worth) (z := false) (FunD.of T.F_worth) sc_worth rfl rfl (fun cdv A outer s H E hr hg W tk => ?_)
  exact (ss_cons (s_set 3 sc_worth.nd d_int)
    (ss_cons (s_for [0, 4] (vs := [4]) (passes_of rfl) rfl (i_seq (d_rev false (d_v 0))) (g_name 4 sc_worth.nd) (ss_wipe [0, 4] (ss_one (s_set 3 sc_worth.nd (d_mod (d_add false (d_mul false (d_v 3) (d_v 1)) (d_v 4)) (d_v 2))))))
    (ss_one (s_ret (d_v 3)))))
theorem ok_through (T : Txt K mg) : FnF P w K mg base 4 T.f_through T.fd_through ["points", "prime"] F_through := by
  refine okN (t := t_through) (z := false) (FunD.of T.F_through) sc_through rfl rfl (fun cdv A outer s H E hr hg W tk => ?_)
  exact (ss_cons (s_setLc false 2 [("place", 4), ("number", 7)] rfl sc_through.nd (i_seq (d_v 0)) (blkOk_by (own := [("place", 4), ("number", 7)]) (N := ["points", "prime", "places", "at", "place", "found", "nought", "number", "gap", "times", "one", "other"]) (sc := defScope s_through) (by decide +kernel)) (fun _ _ _ _ _ => (g_tup rfl (g_cons (g_name 4 sc_through.nd) (g_cons (g_name 7 sc_through.nd) g_nil)))) (fun _ _ _ _ _ => ts_nil) (fun _ _ _ _ _ => (d_v 4)))
    (ss_cons (s_for [3, 4, 5, 6, 7, 8, 9] (vs := [3, 4]) (passes_of rfl) rfl (i_enum T.m_enumerate (a_cons (d_v 2) a_nil)) (g_tup rfl (g_cons (g_name 3 sc_through.nd) (g_cons (g_name 4 sc_through.nd) g_nil))) (ss_wipe [3, 4, 5, 6, 7, 8, 9] (ss_one (s_if (t_cmp (op_inU (hu_of hr)) (r2_in false) (d_v 4) (d_sl false (d_v 2) o_none (o_some (d_v 3))) (by with_unfolding_all rfl)) (ss_one (s_raise rfl tk (m_mk1 bx_ValueError T.x_NoCurve (ok_x_NoCurve T) (hr.mono (by decide)) (a_cons (d_v 3) a_nil)))) ss_nil))))
    (ss_cons (s_set 5 sc_through.nd (d_lst false a_nil))
    (ss_cons (s_set 6 sc_through.nd (d_lst false (a_cons d_int a_nil)))
    (ss_cons (s_for [0, 2, 3, 4, 7, 8, 9] (vs := [4, 7]) (passes_of rfl) rfl (i_seq (d_v 0)) (g_tup rfl (g_cons (g_name 4 sc_through.nd) (g_cons (g_name 7 sc_through.nd) g_nil))) (ss_wipe [0, 2, 3, 4, 7, 8, 9] (ss_cons (s_set 8 sc_through.nd (d_mod (d_sub (d_v 7) (d_call (ds := []) (ok_worth T) (hr.mono (by decide)) hg tk T.m_worth T.F_worth.kp T.b_worth .nil no_vrs (a_cons (d_v 5) (a_cons (d_v 4) (a_cons (d_v 1) a_nil))))) (d_v 1)))
    (ss_cons (s_set 9 sc_through.nd (d_mod (d_mul false (d_v 8) (d_call (ds := []) (ok_turned T) (hr.mono (by decide)) hg tk T.m_turned T.F_turned.kp T.b_turned .nil no_vrs (a_cons (d_call (ds := []) (ok_worth T) (hr.mono (by decide)) hg tk T.m_worth T.F_worth.kp T.b_worth .nil no_vrs (a_cons (d_v 6) (a_cons (d_v 4) (a_cons (d_v 1) a_nil)))) (a_cons (d_v 1) a_nil)))) (d_v 1)))
    (ss_cons (s_setLc false 5 [("one", 10), ("other", 11)] rfl sc_through.nd (i_zipS T.m_zip (a_cons (d_add false (d_v 5) (d_lst false (a_cons d_int a_nil))) (a_cons (d_v 6) a_nil))) (blkOk_by (own := [("one", 10), ("other", 11)]) (N := ["points", "prime", "places", "at", "place", "found", "nought", "number", "gap", "times", "one", "other"]) (sc := defScope s_through) (by decide +kernel)) (fun _ _ _ _ _ => (g_tup rfl (g_cons (g_name 10 sc_through.nd) (g_cons (g_name 11 sc_through.nd) g_nil)))) (fun _ _ _ _ _ => ts_nil) (fun _ _ _ _ _ => (d_mod (d_add false (d_v 10) (d_mul false (d_v 9) (d_v 11))) (d_v 1))))
    (ss_one (s_set 6 sc_through.nd (d_call (ds := []) (ok_with_nought T) (hr.mono (by decide)) hg tk T.m_with_nought T.F_with_nought.kp T.b_with_nought .nil no_vrs (a_cons (d_v 6) (a_cons (d_v 4) (a_cons (d_v 1) a_nil)))))))))))
    (ss_one (s_ret (d_callT call_tuple_of rl_tuple T.m_tuple (by decide +kernel) (a_cons (d_v 5) a_nil)))))))))
theorem ok_curve_of (T : Txt K mg) : FnF P w K mg base 5 T.f_curve_of T.fd_curve_of ["company", "hands", "pieces"] F_curve_of := by
  refine okN (t := t_curve_of) (z := false) (FunD.of T.F_curve_of) sc_curve_of rfl rfl (fun cdv A outer s H E hr hg W tk => ?_)
  exact (ss_one (s_ret (d_call (ds := []) (ok_through T) (hr.mono (by decide)) hg tk T.m_through T.F_through.kp T.b_through .nil no_vrs (a_cons (d_callT call_tuple_of rl_tuple T.m_tuple (by decide +kernel) (a_cons (d_lc false [("hand", 3)] rfl sc_curve_of.nd (i_seq (d_v 1)) (blkOk_by (own := [("hand", 3)]) (N := ["company", "hands", "pieces", "hand"]) (sc := defScope s_curve_of) (by decide +kernel)) (fun _ _ _ _ _ => (g_name 3 sc_curve_of.nd)) (fun _ _ _ _ _ => ts_nil) (fun _ _ _ _ _ => (d_tup (a_cons (d_add false (d_v 3) d_int) (a_cons (d_ix (hu_of hr) (d_v 2) (d_v 3)) a_nil))))) a_nil)) (a_cons (d_ix (hu_of hr) (d_v 0) d_int) a_nil)))))
theorem ok_lots_of (T : Txt K mg) : ∀ n : Nat, FnF P w K mg base (1 + n) T.f_lots_of T.fd_lots_of ["many", "some", "least"] (F_lots_of n)
  | 0 => FnF.none
  | n + 1 => by
    have ih := ok_lots_of T n
    refine okN (lv := 1 + n) (t := t_lots_of (F_lots_of n)) (z := true) T.F_lots_of sc_lots_of rfl rfl (fun cdv A outer s H E hr hg W tk => ?_)
    exact (ss_cons (s_if (t_cmp (op_eqU hr.units) r2_eq (d_v 1) d_int (nomark _)) (ss_one (s_ret (d_lst false (a_cons (d_tup a_nil) a_nil)))) ss_nil)
    (ss_cons (s_set 3 sc_lots_of.nd (d_lst true a_nil))
    (ss_cons (s_for [2, 4] (vs := [4]) (passes_of rfl) rfl (i_rg2 T.m_range (a_cons (d_v 2) (a_cons (d_add false (d_sub (d_v 0) (d_v 1)) d_int) a_nil))) (g_name 4 sc_lots_of.nd) (ss_wipe [2, 4] (ss_one (s_drop (d_ext (d_v 3) (d_lc false [("rest", 5)] rfl sc_lots_of.nd (i_seq (d_callD (ds := []) ih (hr.mono (by omega)) hg tk T.m_lots_of T.F_lots_of.kp T.bd_lots_of_3 (fun fr H ms => .nil) (a_cons (d_v 0) (a_cons (d_sub (d_v 1) d_int) (a_cons (d_add false (d_v 4) d_int) a_nil))))) (blkOk_by (own := [("rest", 5)]) (N := ["many", "some", "least", "found", "hand", "rest"]) (sc := defScope s_lots_of) (by decide +kernel)) (fun _ _ _ _ _ => (g_name 5 sc_lots_of.nd)) (fun _ _ _ _ _ => ts_nil) (fun _ _ _ _ _ => (d_add false (d_tup (a_cons (d_v 4) a_nil)) (d_v 5)))))))))
    (ss_one (s_ret (d_v 3))))))
theorem ok_off_hands (T : Txt K mg) : FnF P w K mg base 2 T.f_off_hands T.fd_off_hands ["company", "curve", "pieces"] F_off_hands := by
  refine okN (t := t_off_hands) (z := false) (FunD.of T.F_off_hands) sc_off_hands rfl rfl (fun cdv A outer s H E hr hg W tk => ?_)
  exact (ss_one (s_ret (d_lc false [("hand", 3), ("piece", 4)] rfl sc_off_hands.nd (i_enum T.m_enumerate (a_cons (d_v 2) a_nil)) (blkOk_by (own := [("hand", 3), ("piece", 4)]) (N := ["company", "curve", "pieces", "hand", "piece"]) (sc := defScope s_off_hands) (by decide +kernel)) (fun _ _ _ _ _ => (g_tup rfl (g_cons (g_name 3 sc_off_hands.nd) (g_cons (g_name 4 sc_off_hands.nd) g_nil)))) (fun _ _ _ _ _ => (ts_one (t_cmp (op_neU hr.units) r2_ne (d_call (ds := []) (ok_worth T) (hr.mono (by decide)) hg takes_none T.m_worth T.F_worth.kp T.b_worth .nil no_vrs (a_cons (d_v 1) (a_cons (d_add false (d_v 3) d_int) (a_cons (d_ix (hu_of hr) (d_v 0) d_int) a_nil)))) (d_v 4) (nomark _)))) (fun _ _ _ _ _ => (d_v 3)))))
theorem ok_mended (T : Txt K mg) : FnF P w K mg base 8 T.f_mended T.fd_mended ["company", "pieces"] F_mended := by
  refine okN (t := t_mended) (z := true) (FunD.of T.F_mended) sc_mended rfl rfl (fun cdv A outer s H E hr hg W tk => ?_)
  exact (ss_cons (s_asg (vs := [2, 3, 4]) (d_v 0) (g_tup rfl (g_cons (g_name 2 sc_mended.nd) (g_cons (g_name 3 sc_mended.nd) (g_cons (g_name 4 sc_mended.nd) g_nil)))))
    (ss_cons (s_set 5 sc_mended.nd (d_div (d_sub (d_sub (d_v 3) (d_v 4)) d_int) d_int))
    (ss_cons (s_set 6 sc_mended.nd (d_lst true a_nil))
    (ss_cons (s_for [2, 3, 4, 7, 8, 9] (vs := [7]) (passes_of rfl) rfl (i_seq (d_callD (ds := [.int 0]) (ok_lots_of T 6) (hr.mono (by decide)) hg tk T.m_lots_of T.F_lots_of.kp T.bd_lots_of_2 (fun fr H ms => .cons (.int _) (.nil)) (a_cons (d_add false (d_add false (d_v 4) (d_v 5)) d_int) (a_cons (d_add false (d_v 4) d_int) a_nil)))) (g_name 7 sc_mended.nd) (ss_wipe [2, 3, 4, 7, 8, 9] (ss_cons (s_set 8 sc_mended.nd (d_call (ds := []) (ok_curve_of T) (hr.mono (by decide)) hg tk T.m_curve_of T.F_curve_of.kp T.b_curve_of .nil no_vrs (a_cons (d_v 0) (a_cons (d_v 7) (a_cons (d_v 1) a_nil)))))
    (ss_cons (s_set 9 sc_mended.nd (d_callT call_tuple_of rl_tuple T.m_tuple (by decide +kernel) (a_cons (d_call (ds := []) (ok_off_hands T) (hr.mono (by decide)) hg tk T.m_off_hands T.F_off_hands.kp T.b_off_hands .nil no_vrs (a_cons (d_v 0) (a_cons (d_v 8) (a_cons (d_v 1) a_nil)))) a_nil)))
    (ss_cons (s_if (t_cmp op_le r2_le (d_callB call_lenV rl_len T.m_len (by decide +kernel) (a_cons (d_v 9) a_nil)) (d_v 5) (nomark _)) (ss_one (s_ret (d_tup (a_cons d_str (a_cons (d_ix (hu_of hr) (d_v 8) d_int) (a_cons (d_v 9) a_nil)))))) ss_nil)
    (ss_one (s_drop (d_m PySem.F.slot_list_append PySem.F.type_list_append mt_append rm_app (d_v 6) (a_cons (d_tup (a_cons (d_v 7) (a_cons (d_sl false (d_v 9) o_none (o_some (d_add false (d_v 5) d_int))) a_nil))) a_nil)))))))))
    (ss_one (s_ret (d_tup (a_cons d_str (a_cons (d_v 6) a_nil)))))))))
theorem ok_is_mended (T : Txt K mg) : FnF P w K mg base 9 T.f_is_mended T.fd_is_mended ["thing", "company", "pieces"] F_is_mended := by
  refine okN (t := t_is_mended) (z := false) (FunD.of T.F_is_mended) sc_is_mended rfl rfl (fun cdv A outer s H E hr hg W tk => ?_)
  exact (ss_one (s_ret (d_call (ds := []) (ok_is_same T 6) (hr.mono (by decide)) hg tk T.m_is_same T.F_is_same.kp T.b_is_same .nil no_vrs (a_cons (d_v 0) (a_cons (d_call (ds := []) (ok_mended T) (hr.mono (by decide)) hg tk T.m_mended T.F_mended.kp T.b_mended .nil no_vrs (a_cons (d_v 1) (a_cons (d_v 2) a_nil))) a_nil)))))
theorem ok_law (T : Txt K mg) {f : Addr} {fd : FuncData} (F : Fun K "law" "law" s_law f fd) : FnF P w K mg base 10 f fd ["_law_script"] F_law := by
  refine okN (t := t_law) (z := true) (FunD.of F) sc_law rfl rfl (fun cdv A outer s H E hr hg W tk => ?_)
  exact (ss_cons (s_set 1 sc_law.nd (d_call (ds := []) (ok_law_pen T) (hr.mono (by decide)) hg tk T.m_law_pen T.F_law_pen.kp T.b_law_pen .nil no_vrs (a_cons (d_v 0) a_nil)))
    (ss_cons (s_for [0, 2, 3, 4, 5, 6, 7, 8, 9, 10, 11, 12, 13, 14] (vs := [2]) (passes_of rfl) rfl (i_rg1 T.m_range (a_cons d_int a_nil)) (g_name 2 sc_law.nd) (ss_wipe [0, 2, 3, 4, 5, 6, 7, 8, 9, 10, 11, 12, 13, 14] (ss_cons (s_set 3 sc_law.nd (d_call (ds := []) (ok_law_company T) (hr.mono (by decide)) hg tk T.m_law_company T.F_law_company.kp T.b_law_company .nil no_vrs (a_cons (d_v 1) (a_cons (d_call0 (ds := []) (ok_law_companies T) (hr.mono (by decide)) hg tk T.m_law_companies T.F_law_companies.kp T.b_law_companies .nil no_vrs) a_nil))))
    (ss_cons (s_asg (vs := [4, 5, 6]) (d_v 3) (g_tup rfl (g_cons (g_name 4 sc_law.nd) (g_cons (g_name 5 sc_law.nd) (g_cons (g_name 6 sc_law.nd) g_nil)))))
    (ss_cons (s_set 7 sc_law.nd (d_call (ds := []) (ok_law_pieces T) (hr.mono (by decide)) hg tk T.m_law_pieces T.F_law_pieces.kp T.b_law_pieces .nil no_vrs (a_cons (d_v 3) (a_cons (d_call (ds := []) (ok_law_draw T) (hr.mono (by decide)) hg tk T.m_law_draw T.F_law_draw.kp T.b_law_draw .nil no_vrs (a_cons (d_v 1) (a_cons (d_v 4) a_nil))) (a_cons (d_call (ds := []) (ok_law_coins T) (hr.mono (by decide)) hg tk T.m_law_coins T.F_law_coins.kp T.b_law_coins .nil no_vrs (a_cons (d_v 1) (a_cons (d_v 4) (a_cons (d_v 6) a_nil)))) a_nil)))))
    (ss_cons (s_for [0, 2, 6, 8, 9, 10, 11, 12, 13, 14] (vs := [8]) (passes_of rfl) rfl (i_rg1 T.m_range (a_cons (d_ix (hu_of hr) (d_lst false (a_cons d_int (a_cons d_int (a_cons d_int (a_cons d_int a_nil))))) (d_call (ds := []) (ok_law_draw T) (hr.mono (by decide)) hg tk T.m_law_draw T.F_law_draw.kp T.b_law_draw .nil no_vrs (a_cons (d_v 1) (a_cons d_int a_nil)))) a_nil)) (g_name 8 sc_law.nd) (ss_wipe [0, 2, 6, 8, 9, 10, 11, 12, 13, 14] (ss_cons (s_set 9 sc_law.nd (d_call (ds := []) (ok_law_draw T) (hr.mono (by decide)) hg tk T.m_law_draw T.F_law_draw.kp T.b_law_draw .nil no_vrs (a_cons (d_v 1) (a_cons (d_v 5) a_nil))))
    (ss_cons (s_set 10 sc_law.nd (d_mod (d_add false (d_add false (d_ix (hu_of hr) (d_v 7) (d_v 9)) d_int) (d_call (ds := []) (ok_law_draw T) (hr.mono (by decide)) hg tk T.m_law_draw T.F_law_draw.kp T.b_law_draw .nil no_vrs (a_cons (d_v 1) (a_cons (d_sub (d_v 4) d_int) a_nil)))) (d_v 4)))
    (ss_one (s_set 7 sc_law.nd (d_add false (d_add false (d_sl false (d_v 7) o_none (o_some (d_v 9))) (d_tup (a_cons (d_v 10) a_nil))) (d_sl false (d_v 7) (o_some (d_add false (d_v 9) d_int)) o_none))))))))
    (ss_cons (s_set 11 sc_law.nd (d_call (ds := []) (ok_mended T) (hr.mono (by decide)) hg tk T.m_mended T.F_mended.kp T.b_mended .nil no_vrs (a_cons (d_v 3) (a_cons (d_v 7) a_nil))))
    (ss_cons (s_set 10 sc_law.nd (d_call (ds := []) (ok_mended T) (hr.mono (by decide)) hg tk T.m_mended T.F_mended.kp T.b_mended .nil no_vrs (a_cons (d_v 3) (a_cons (d_call (ds := []) (ok_law_coins T) (hr.mono (by decide)) hg tk T.m_law_coins T.F_law_coins.kp T.b_law_coins .nil no_vrs (a_cons (d_v 1) (a_cons (d_v 4) (a_cons (d_v 5) a_nil)))) a_nil))))
    (ss_cons (s_for [0, 2, 4, 5, 6, 8, 9, 10, 12, 13, 14] (vs := [12]) (passes_of rfl) rfl (i_seq (d_add false (d_lst false (a_cons (d_v 11) (a_cons (d_v 10) a_nil))) (d_lc false [("_law_often", 14)] rfl sc_law.nd (i_rg1 T.m_range (a_cons d_int a_nil)) (blkOk_by (own := [("_law_often", 14)]) (N := ["_law_script", "_law_pen_here", "_law_turn", "_law_group", "_law_prime", "_law_hands", "_law_few", "_law_some", "_law_k", "_law_hand", "_law_other", "_law_good", "_law_item", "_law_kept", "_law_often"]) (sc := defScope s_law) (by decide +kernel)) (fun _ _ _ _ _ => (g_name 14 sc_law.nd)) (fun _ _ _ _ _ => ts_nil) (fun _ _ _ _ _ => (d_call (ds := []) (ok_law_bent T) (hr.mono (by decide)) hg takes_none T.m_law_bent T.F_law_bent.kp T.b_law_bent .nil no_vrs (a_cons (d_v 1) (a_cons (d_v 11) (a_cons (d_v 4) a_nil)))))))) (g_name 12 sc_law.nd) (ss_wipe [0, 2, 4, 5, 6, 8, 9, 10, 12, 13, 14] (ss_cons (s_set 13 sc_law.nd (d_callB (call_reprV hg (rm180 hr)) rl_reprU T.m_repr (by decide +kernel) (a_cons (d_v 12) a_nil)))
    (ss_one (s_if (PW.pt (w_or (t_not (t_val (d_call (ds := []) (ok_law_same T 6) (hr.mono (by decide)) hg tk T.m_law_same T.F_law_same.kp T.b_law_same .nil no_vrs (a_cons (d_call (ds := []) (ok_is_mended T) (hr.mono (by decide)) hg tk T.m_is_mended T.F_is_mended.kp T.b_is_mended .nil no_vrs (a_cons (d_v 12) (a_cons (d_v 3) (a_cons (d_v 7) a_nil)))) (a_cons (d_call (ds := []) (ok_law_same T 6) (hr.mono (by decide)) hg tk T.m_law_same T.F_law_same.kp T.b_law_same .nil no_vrs (a_cons (d_v 12) (a_cons (d_v 11) a_nil))) a_nil))))) (w_or1 (t_cmp (op_neU hr.units) r2_ne (d_callB (call_reprV hg (rm180 hr)) rl_reprU T.m_repr (by decide +kernel) (a_cons (d_v 12) a_nil)) (d_v 13) (nomark _))))) (ss_one (s_ret d_bl)) ss_nil)))))
    (ss_one (s_if (t_cmp op_notBl r2_notB (d_callK [2, 1, 0] (ok_is_mended T) (hr.mono (by decide)) hg tk T.m_is_mended T.F_is_mended.kp T.kb_is_mended_pieces_company_thing rfl (k_cons (d_v 7) (k_cons (d_v 3) (k_cons (d_v 11) k_nil)))) d_bl (nomark _)) (ss_one (s_ret d_bl)) ss_nil)))))))))))
    (ss_one (s_ret d_bl))))
end
theorem all_mk {l : PySem.W.OpenLaw} {w : World} {K : PySem.W.Frag} {h : Heap} {mg : Str → Option Value} {fa f0 f1 f2 f3 f4 f5 f6 f7 f8 f9 f10 f11 f12 f13 f14 f15 f16 f17 f18 f19 f20 f21 f22 f23 f24 : Addr} (X : K.In h) (G : h.Ns mainGlobals mg) (hfa : mg "law" = some (.ref fa))
    {T20 : Addr}
    {td20 : Option Addr}
    {ts20 : Array (Option Value)}
    {tn20 : Nat}
    {tc20 : Value}
    {tk20_least : Tok}
    {C_NoCurve C_NoTurned : Addr}
    {N_NoCurve fI_NoCurve N_NoTurned fI_NoTurned : Addr} {nm_NoCurve q_NoCurve nm_NoTurned q_NoTurned : Str} {bs_NoCurve sub_NoCurve bs_NoTurned sub_NoTurned : List Value} {sn_NoCurve sn_NoTurned : List Str} {ab_NoCurve ab_NoTurned : Bool} {col_NoCurve col_NoTurned : Option Bool} {dd_NoCurve dd_NoTurned : Option Addr} {k0_NoCurve k1_NoCurve k2_NoCurve k3_NoCurve k5_NoCurve k0_NoTurned k1_NoTurned k2_NoTurned k3_NoTurned k5_NoTurned : Option Value}
    {xod_NoCurve xan_NoCurve xod_NoTurned xan_NoTurned : Option Addr} {xsl_NoCurve xsl_NoTurned : Array (Option Value)} {xoc_NoCurve xkV_NoCurve xdc_NoCurve xpm_NoCurve xcd_NoCurve xct_NoCurve xoc_NoTurned xkV_NoTurned xdc_NoTurned xpm_NoTurned xcd_NoTurned xct_NoTurned : Value}
    {od0 an0 od1 an1 od2 an2 od3 an3 od4 an4 od5 an5 od6 an6 od7 an7 od8 an8 od9 an9 od10 an10 od11 an11 od12 an12 od13 an13 od14 an14 od15 an15 od16 an16 od17 an17 od18 an18 od19 an19 od20 an20 od21 an21 od22 an22 od23 an23 od24 an24 : Option Addr} {sl0 sl1 sl2 sl3 sl4 sl5 sl6 sl7 sl8 sl9 sl10 sl11 sl12 sl13 sl14 sl15 sl16 sl17 sl18 sl19 sl20 sl21 sl22 sl23 sl24 : Array (Option Value)} {oc0 kV0 dc0 pm0 cd0 ct0 oc1 kV1 dc1 pm1 cd1 ct1 oc2 kV2 dc2 pm2 cd2 ct2 oc3 kV3 dc3 pm3 cd3 ct3 oc4 kV4 dc4 pm4 cd4 ct4 oc5 kV5 dc5 pm5 cd5 ct5 oc6 kV6 dc6 pm6 cd6 ct6 oc7 kV7 dc7 pm7 cd7 ct7 oc8 kV8 dc8 pm8 cd8 ct8 oc9 kV9 dc9 pm9 cd9 ct9 oc10 kV10 dc10 pm10 cd10 ct10 oc11 kV11 dc11 pm11 cd11 ct11 oc12 kV12 dc12 pm12 cd12 ct12 oc13 kV13 dc13 pm13 cd13 ct13 oc14 kV14 dc14 pm14 cd14 ct14 oc15 kV15 dc15 pm15 cd15 ct15 oc16 kV16 dc16 pm16 cd16 ct16 oc17 kV17 dc17 pm17 cd17 ct17 oc18 kV18 dc18 pm18 cd18 ct18 oc19 kV19 dc19 pm19 cd19 ct19 oc20 kV20 dc20 pm20 cd20 ct20 oc21 kV21 dc21 pm21 cd21 ct21 oc22 kV22 dc22 pm22 cd22 ct22 oc23 kV23 dc23 pm23 cd23 ct23 oc24 kV24 dc24 pm24 cd24 ct24 : Value}
    (a0 : PySem.W.nsIn K mainGlobals "_law_fresh" = some (some (.ref f0))) (l0 : K.lookup f0 = some ⟨oc0, od0, .func (PySem.W.fnOf "_law_fresh" "_law_fresh" (defArgs s_law_fresh) (defBody s_law_fresh) (defScope s_law_fresh) .none kV0 dc0 pm0 an0 cd0 ct0), sl0⟩) (c0 : PySem.W.codeIn K cd0 "_law_fresh" = true) (k0 : PySem.W.keepIn K (.ref f0) = true)
    (a1 : PySem.W.nsIn K mainGlobals "_law_draw" = some (some (.ref f1))) (l1 : K.lookup f1 = some ⟨oc1, od1, .func (PySem.W.fnOf "_law_draw" "_law_draw" (defArgs s_law_draw) (defBody s_law_draw) (defScope s_law_draw) .none kV1 dc1 pm1 an1 cd1 ct1), sl1⟩) (c1 : PySem.W.codeIn K cd1 "_law_draw" = true) (k1 : PySem.W.keepIn K (.ref f1) = true)
    (a2 : PySem.W.nsIn K mainGlobals "_law_bent_row" = some (some (.ref f2))) (l2 : K.lookup f2 = some ⟨oc2, od2, .func (PySem.W.fnOf "_law_bent_row" "_law_bent_row" (defArgs s_law_bent_row) (defBody s_law_bent_row) (defScope s_law_bent_row) .none kV2 dc2 pm2 an2 cd2 ct2), sl2⟩) (c2 : PySem.W.codeIn K cd2 "_law_bent_row" = true) (k2 : PySem.W.keepIn K (.ref f2) = true)
    (a3 : PySem.W.nsIn K mainGlobals "_law_bent_cover" = some (some (.ref f3))) (l3 : K.lookup f3 = some ⟨oc3, od3, .func (PySem.W.fnOf "_law_bent_cover" "_law_bent_cover" (defArgs s_law_bent_cover) (defBody s_law_bent_cover) (defScope s_law_bent_cover) .none kV3 dc3 pm3 an3 cd3 ct3), sl3⟩) (c3 : PySem.W.codeIn K cd3 "_law_bent_cover" = true) (k3 : PySem.W.keepIn K (.ref f3) = true)
    (a4 : PySem.W.nsIn K mainGlobals "_law_bent" = some (some (.ref f4))) (l4 : K.lookup f4 = some ⟨oc4, od4, .func (PySem.W.fnOf "_law_bent" "_law_bent" (defArgs s_law_bent) (defBody s_law_bent) (defScope s_law_bent) .none kV4 dc4 pm4 an4 cd4 ct4), sl4⟩) (c4 : PySem.W.codeIn K cd4 "_law_bent" = true) (k4 : PySem.W.keepIn K (.ref f4) = true)
    (a5 : PySem.W.nsIn K mainGlobals "_law_coins" = some (some (.ref f5))) (l5 : K.lookup f5 = some ⟨oc5, od5, .func (PySem.W.fnOf "_law_coins" "_law_coins" (defArgs s_law_coins) (defBody s_law_coins) (defScope s_law_coins) .none kV5 dc5 pm5 an5 cd5 ct5), sl5⟩) (c5 : PySem.W.codeIn K cd5 "_law_coins" = true) (k5 : PySem.W.keepIn K (.ref f5) = true)
    (a6 : PySem.W.nsIn K mainGlobals "_law_companies" = some (some (.ref f6))) (l6 : K.lookup f6 = some ⟨oc6, od6, .func (PySem.W.fnOf "_law_companies" "_law_companies" (defArgs s_law_companies) (defBody s_law_companies) (defScope s_law_companies) .none kV6 dc6 pm6 an6 cd6 ct6), sl6⟩) (c6 : PySem.W.codeIn K cd6 "_law_companies" = true) (k6 : PySem.W.keepIn K (.ref f6) = true)
    (a7 : PySem.W.nsIn K mainGlobals "_law_company" = some (some (.ref f7))) (l7 : K.lookup f7 = some ⟨oc7, od7, .func (PySem.W.fnOf "_law_company" "_law_company" (defArgs s_law_company) (defBody s_law_company) (defScope s_law_company) .none kV7 dc7 pm7 an7 cd7 ct7), sl7⟩) (c7 : PySem.W.codeIn K cd7 "_law_company" = true) (k7 : PySem.W.keepIn K (.ref f7) = true)
    (a8 : PySem.W.nsIn K mainGlobals "_law_pen" = some (some (.ref f8))) (l8 : K.lookup f8 = some ⟨oc8, od8, .func (PySem.W.fnOf "_law_pen" "_law_pen" (defArgs s_law_pen) (defBody s_law_pen) (defScope s_law_pen) .none kV8 dc8 pm8 an8 cd8 ct8), sl8⟩) (c8 : PySem.W.codeIn K cd8 "_law_pen" = true) (k8 : PySem.W.keepIn K (.ref f8) = true)
    (a9 : PySem.W.nsIn K mainGlobals "_law_piece" = some (some (.ref f9))) (l9 : K.lookup f9 = some ⟨oc9, od9, .func (PySem.W.fnOf "_law_piece" "_law_piece" (defArgs s_law_piece) (defBody s_law_piece) (defScope s_law_piece) .none kV9 dc9 pm9 an9 cd9 ct9), sl9⟩) (c9 : PySem.W.codeIn K cd9 "_law_piece" = true) (k9 : PySem.W.keepIn K (.ref f9) = true)
    (a10 : PySem.W.nsIn K mainGlobals "_law_pieces" = some (some (.ref f10))) (l10 : K.lookup f10 = some ⟨oc10, od10, .func (PySem.W.fnOf "_law_pieces" "_law_pieces" (defArgs s_law_pieces) (defBody s_law_pieces) (defScope s_law_pieces) .none kV10 dc10 pm10 an10 cd10 ct10), sl10⟩) (c10 : PySem.W.codeIn K cd10 "_law_pieces" = true) (k10 : PySem.W.keepIn K (.ref f10) = true)
    (a11 : PySem.W.nsIn K mainGlobals "_law_number" = some (some (.ref f11))) (l11 : K.lookup f11 = some ⟨oc11, od11, .func (PySem.W.fnOf "_law_number" "_law_number" (defArgs s_law_number) (defBody s_law_number) (defScope s_law_number) .none kV11 dc11 pm11 an11 cd11 ct11), sl11⟩) (c11 : PySem.W.codeIn K cd11 "_law_number" = true) (k11 : PySem.W.keepIn K (.ref f11) = true)
    (a12 : PySem.W.nsIn K mainGlobals "_law_same" = some (some (.ref f12))) (l12 : K.lookup f12 = some ⟨oc12, od12, .func (PySem.W.fnOf "_law_same" "_law_same" (defArgs s_law_same) (defBody s_law_same) (defScope s_law_same) .none kV12 dc12 pm12 an12 cd12 ct12), sl12⟩) (c12 : PySem.W.codeIn K cd12 "_law_same" = true) (k12 : PySem.W.keepIn K (.ref f12) = true)
    (a13 : PySem.W.nsIn K mainGlobals "is_number" = some (some (.ref f13))) (l13 : K.lookup f13 = some ⟨oc13, od13, .func (PySem.W.fnOf "is_number" "is_number" (defArgs s_is_number) (defBody s_is_number) (defScope s_is_number) .none kV13 dc13 pm13 an13 cd13 ct13), sl13⟩) (c13 : PySem.W.codeIn K cd13 "is_number" = true) (k13 : PySem.W.keepIn K (.ref f13) = true)
    (a14 : PySem.W.nsIn K mainGlobals "is_same" = some (some (.ref f14))) (l14 : K.lookup f14 = some ⟨oc14, od14, .func (PySem.W.fnOf "is_same" "is_same" (defArgs s_is_same) (defBody s_is_same) (defScope s_is_same) .none kV14 dc14 pm14 an14 cd14 ct14), sl14⟩) (c14 : PySem.W.codeIn K cd14 "is_same" = true) (k14 : PySem.W.keepIn K (.ref f14) = true)
    (a15 : PySem.W.nsIn K mainGlobals "turned" = some (some (.ref f15))) (l15 : K.lookup f15 = some ⟨oc15, od15, .func (PySem.W.fnOf "turned" "turned" (defArgs s_turned) (defBody s_turned) (defScope s_turned) .none kV15 dc15 pm15 an15 cd15 ct15), sl15⟩) (c15 : PySem.W.codeIn K cd15 "turned" = true) (k15 : PySem.W.keepIn K (.ref f15) = true)
    (a16 : PySem.W.nsIn K mainGlobals "with_nought" = some (some (.ref f16))) (l16 : K.lookup f16 = some ⟨oc16, od16, .func (PySem.W.fnOf "with_nought" "with_nought" (defArgs s_with_nought) (defBody s_with_nought) (defScope s_with_nought) .none kV16 dc16 pm16 an16 cd16 ct16), sl16⟩) (c16 : PySem.W.codeIn K cd16 "with_nought" = true) (k16 : PySem.W.keepIn K (.ref f16) = true)
    (a17 : PySem.W.nsIn K mainGlobals "worth" = some (some (.ref f17))) (l17 : K.lookup f17 = some ⟨oc17, od17, .func (PySem.W.fnOf "worth" "worth" (defArgs s_worth) (defBody s_worth) (defScope s_worth) .none kV17 dc17 pm17 an17 cd17 ct17), sl17⟩) (c17 : PySem.W.codeIn K cd17 "worth" = true) (k17 : PySem.W.keepIn K (.ref f17) = true)
    (a18 : PySem.W.nsIn K mainGlobals "through" = some (some (.ref f18))) (l18 : K.lookup f18 = some ⟨oc18, od18, .func (PySem.W.fnOf "through" "through" (defArgs s_through) (defBody s_through) (defScope s_through) .none kV18 dc18 pm18 an18 cd18 ct18), sl18⟩) (c18 : PySem.W.codeIn K cd18 "through" = true) (k18 : PySem.W.keepIn K (.ref f18) = true)
    (a19 : PySem.W.nsIn K mainGlobals "curve_of" = some (some (.ref f19))) (l19 : K.lookup f19 = some ⟨oc19, od19, .func (PySem.W.fnOf "curve_of" "curve_of" (defArgs s_curve_of) (defBody s_curve_of) (defScope s_curve_of) .none kV19 dc19 pm19 an19 cd19 ct19), sl19⟩) (c19 : PySem.W.codeIn K cd19 "curve_of" = true) (k19 : PySem.W.keepIn K (.ref f19) = true)
    (a20 : PySem.W.nsIn K mainGlobals "lots_of" = some (some (.ref f20))) (l20 : K.lookup f20 = some ⟨oc20, od20, .func (PySem.W.fnOf "lots_of" "lots_of" (defArgs s_lots_of) (defBody s_lots_of) (defScope s_lots_of) (.ref T20) kV20 dc20 pm20 an20 cd20 ct20), sl20⟩) (c20 : PySem.W.codeIn K cd20 "lots_of" = true) (k20 : PySem.W.keepIn K (.ref f20) = true)
    (t20 : K.lookup T20 = some ⟨tc20, td20, .seq #[.int 0 tk20_least] tn20, ts20⟩)
    (a21 : PySem.W.nsIn K mainGlobals "off_hands" = some (some (.ref f21))) (l21 : K.lookup f21 = some ⟨oc21, od21, .func (PySem.W.fnOf "off_hands" "off_hands" (defArgs s_off_hands) (defBody s_off_hands) (defScope s_off_hands) .none kV21 dc21 pm21 an21 cd21 ct21), sl21⟩) (c21 : PySem.W.codeIn K cd21 "off_hands" = true) (k21 : PySem.W.keepIn K (.ref f21) = true)
    (a22 : PySem.W.nsIn K mainGlobals "mended" = some (some (.ref f22))) (l22 : K.lookup f22 = some ⟨oc22, od22, .func (PySem.W.fnOf "mended" "mended" (defArgs s_mended) (defBody s_mended) (defScope s_mended) .none kV22 dc22 pm22 an22 cd22 ct22), sl22⟩) (c22 : PySem.W.codeIn K cd22 "mended" = true) (k22 : PySem.W.keepIn K (.ref f22) = true)
    (a23 : PySem.W.nsIn K mainGlobals "is_mended" = some (some (.ref f23))) (l23 : K.lookup f23 = some ⟨oc23, od23, .func (PySem.W.fnOf "is_mended" "is_mended" (defArgs s_is_mended) (defBody s_is_mended) (defScope s_is_mended) .none kV23 dc23 pm23 an23 cd23 ct23), sl23⟩) (c23 : PySem.W.codeIn K cd23 "is_mended" = true) (k23 : PySem.W.keepIn K (.ref f23) = true)
    (a24 : PySem.W.nsIn K mainGlobals "law" = some (some (.ref f24))) (l24 : K.lookup f24 = some ⟨oc24, od24, .func (PySem.W.fnOf "law" "law" (defArgs s_law) (defBody s_law) (defScope s_law) .none kV24 dc24 pm24 an24 cd24 ct24), sl24⟩) (c24 : PySem.W.codeIn K cd24 "law" = true) (k24 : PySem.W.keepIn K (.ref f24) = true)
    (z_ValueError : PySem.W.nsIn K mainGlobals "ValueError" = some none)
    (z_ZeroDivisionError : PySem.W.nsIn K mainGlobals "ZeroDivisionError" = some none)
    (z_all : PySem.W.nsIn K mainGlobals "all" = some none)
    (z_bool : PySem.W.nsIn K mainGlobals "bool" = some none)
    (z_dict : PySem.W.nsIn K mainGlobals "dict" = some none)
    (z_enumerate : PySem.W.nsIn K mainGlobals "enumerate" = some none)
    (z_int : PySem.W.nsIn K mainGlobals "int" = some none)
    (z_isinstance : PySem.W.nsIn K mainGlobals "isinstance" = some none)
    (z_len : PySem.W.nsIn K mainGlobals "len" = some none)
    (z_list : PySem.W.nsIn K mainGlobals "list" = some none)
    (z_range : PySem.W.nsIn K mainGlobals "range" = some none)
    (z_repr : PySem.W.nsIn K mainGlobals "repr" = some none)
    (z_sorted : PySem.W.nsIn K mainGlobals "sorted" = some none)
    (z_str : PySem.W.nsIn K mainGlobals "str" = some none)
    (z_tuple : PySem.W.nsIn K mainGlobals "tuple" = some none)
    (z_zip : PySem.W.nsIn K mainGlobals "zip" = some none)
    (xa_NoCurve : PySem.W.nsIn K mainGlobals "NoCurve" = some (some (.ref C_NoCurve)))
    (xe_NoCurve : PySem.W.subIn K (.ref C_NoCurve) (.type "BaseException") = some true)
    (xt_NoCurve : PySem.W.typeIn K (.ref C_NoCurve) = some (.type "type"))
    (xi_NoCurve : PySem.W.isClsIn K C_NoCurve = true)
    (xs_NoCurve : PySem.W.subIn K (.ref C_NoCurve) (.ref C_NoCurve) = some true)
    (xa_NoTurned : PySem.W.nsIn K mainGlobals "NoTurned" = some (some (.ref C_NoTurned)))
    (xe_NoTurned : PySem.W.subIn K (.ref C_NoTurned) (.type "BaseException") = some true)
    (xt_NoTurned : PySem.W.typeIn K (.ref C_NoTurned) = some (.type "type"))
    (xi_NoTurned : PySem.W.isClsIn K C_NoTurned = true)
    (xs_NoTurned : PySem.W.subIn K (.ref C_NoTurned) (.ref C_NoTurned) = some true)
    (xL_NoCurve : K.lookup C_NoCurve = some (excClassObj nm_NoCurve q_NoCurve C_NoCurve N_NoCurve bs_NoCurve [.type "ValueError", .type "Exception", .type "BaseException", .type "object"] true sn_NoCurve sub_NoCurve ab_NoCurve col_NoCurve dd_NoCurve k0_NoCurve k1_NoCurve k2_NoCurve k3_NoCurve k5_NoCurve "ValueError.__new__"))
    (xsa_NoCurve : PySem.W.findIn K (.ref C_NoCurve) "__setattr__" = some (some (.builtin "object.__setattr__")))
    (xk_NoCurve : PySem.W.keepIn K (.ref C_NoCurve) = true)
    (xn_NoCurve : PySem.W.findIn K (.ref C_NoCurve) "place" = some none)
    (xI_NoCurve : PySem.W.findIn K (.ref C_NoCurve) "__init__" = some (some (.ref fI_NoCurve)))
    (xT_NoCurve : PySem.W.typeIn K (.ref fI_NoCurve) = some (.type "function"))
    (xl_NoCurve : K.lookup fI_NoCurve = some ⟨xoc_NoCurve, xod_NoCurve, .func (PySem.W.fnOf "__init__" "NoCurve.__init__" (defArgs si_NoCurve) (defBody si_NoCurve) (defScope si_NoCurve) .none xkV_NoCurve xdc_NoCurve xpm_NoCurve xan_NoCurve xcd_NoCurve xct_NoCurve), xsl_NoCurve⟩)
    (xc_NoCurve : PySem.W.codeIn K xcd_NoCurve "NoCurve.__init__" = true)
    (xK_NoCurve : PySem.W.keepIn K (.ref fI_NoCurve) = true)
    (xL_NoTurned : K.lookup C_NoTurned = some (excClassObj nm_NoTurned q_NoTurned C_NoTurned N_NoTurned bs_NoTurned [.type "ZeroDivisionError", .type "ArithmeticError", .type "Exception", .type "BaseException", .type "object"] true sn_NoTurned sub_NoTurned ab_NoTurned col_NoTurned dd_NoTurned k0_NoTurned k1_NoTurned k2_NoTurned k3_NoTurned k5_NoTurned "ZeroDivisionError.__new__"))
    (xsa_NoTurned : PySem.W.findIn K (.ref C_NoTurned) "__setattr__" = some (some (.builtin "object.__setattr__")))
    (xk_NoTurned : PySem.W.keepIn K (.ref C_NoTurned) = true)
    (xn_NoTurned : PySem.W.findIn K (.ref C_NoTurned) "prime" = some none)
    (xI_NoTurned : PySem.W.findIn K (.ref C_NoTurned) "__init__" = some (some (.ref fI_NoTurned)))
    (xT_NoTurned : PySem.W.typeIn K (.ref fI_NoTurned) = some (.type "function"))
    (xl_NoTurned : K.lookup fI_NoTurned = some ⟨xoc_NoTurned, xod_NoTurned, .func (PySem.W.fnOf "__init__" "NoTurned.__init__" (defArgs si_NoTurned) (defBody si_NoTurned) (defScope si_NoTurned) .none xkV_NoTurned xdc_NoTurned xpm_NoTurned xan_NoTurned xcd_NoTurned xct_NoTurned), xsl_NoTurned⟩)
    (xc_NoTurned : PySem.W.codeIn K xcd_NoTurned "NoTurned.__init__" = true)
    (xK_NoTurned : PySem.W.keepIn K (.ref fI_NoTurned) = true)
    (xv_ValueError : PySem.W.findCls K (.type "ValueError") (.type "type") "__init__" = some (.val (.builtin "ValueError.__init__")))
    (xv_ZeroDivisionError : PySem.W.findCls K (.type "ZeroDivisionError") (.type "type") "__init__" = some (.val (.builtin "ZeroDivisionError.__init__")))
    : ∃ fd : FuncData, (∀ (s : Shared) (v : Value), BindsTo s fd ⟨[v], []⟩ [("_law_script", v)]) ∧ ∀ base : Heap, K.In base → base.Ns mainGlobals mg → FnF l.prog w K mg base 10 fa fd ["_law_script"] F_law := by
  have e := hfa.symm.trans (PySem.W.mg_of X G a24)
  cases e
  have F0 := fun_mk (st := s_law_fresh) l0 c0 k0
  have F1 := fun_mk (st := s_law_draw) l1 c1 k1
  have F2 := fun_mk (st := s_law_bent_row) l2 c2 k2
  have F3 := fun_mk (st := s_law_bent_cover) l3 c3 k3
  have F4 := fun_mk (st := s_law_bent) l4 c4 k4
  have F5 := fun_mk (st := s_law_coins) l5 c5 k5
  have F6 := fun_mk (st := s_law_companies) l6 c6 k6
  have F7 := fun_mk (st := s_law_company) l7 c7 k7
  have F8 := fun_mk (st := s_law_pen) l8 c8 k8
  have F9 := fun_mk (st := s_law_piece) l9 c9 k9
  have F10 := fun_mk (st := s_law_pieces) l10 c10 k10
  have F11 := fun_mk (st := s_law_number) l11 c11 k11
  have F12 := fun_mk (st := s_law_same) l12 c12 k12
  have F13 := fun_mk (st := s_is_number) l13 c13 k13
  have F14 := fun_mk (st := s_is_same) l14 c14 k14
  have F15 := fun_mk (st := s_turned) l15 c15 k15
  have F16 := fun_mk (st := s_with_nought) l16 c16 k16
  have F17 := fun_mk (st := s_worth) l17 c17 k17
  have F18 := fun_mk (st := s_through) l18 c18 k18
  have F19 := fun_mk (st := s_curve_of) l19 c19 k19
  have F20 : FunD K "lots_of" "lots_of" (defArgs s_lots_of) (defBody s_lots_of) (defScope s_lots_of) ([(.int 0)] : List V) ([] : List (Str × V)) f20 _ := fd_mk l20 c20 k20 (.inr ⟨(fun z => by cases z), _, _, _, _, rfl, t20, rfl, .cons ⟨_, rfl⟩ (.nil)⟩) (.inl rfl)
  have F21 := fun_mk (st := s_off_hands) l21 c21 k21
  have F22 := fun_mk (st := s_mended) l22 c22 k22
  have F23 := fun_mk (st := s_is_mended) l23 c23 k23
  have F24 := fun_mk (st := s_law) l24 c24 k24
  have hC_NoCurve := cA_of xa_NoCurve
  have hC_NoTurned := cA_of xa_NoTurned
  have FX_NoCurve := fun_mk (st := si_NoCurve) xl_NoCurve xc_NoCurve xK_NoCurve
  have FX_NoTurned := fun_mk (st := si_NoTurned) xl_NoTurned xc_NoTurned xK_NoTurned
  have hte : ∀ e ∈ ([] : List (Str × Str × Bool)), PySem.W.exmOne K (.ref (cA K e.1)) (.ref (cA K e.2.1)) = some e.2.2 := (fun e z => by cases z)
  have T : Txt K mg := {
    g_NoCurve := (by rw [hC_NoCurve]; exact PySem.W.mg_of X G xa_NoCurve)
    g_NoTurned := (by rw [hC_NoTurned]; exact PySem.W.mg_of X G xa_NoTurned)
    v_ValueError := xv_ValueError
    v_ZeroDivisionError := xv_ZeroDivisionError
    fx_NoCurve := _, fdx_NoCurve := _, x_NoCurve := ⟨by rw [hC_NoCurve]; exact PySem.W.mg_of X G xa_NoCurve, by rw [hC_NoCurve]; exact ⟨⟨_, _, _, _, _, _, _, _, _, _, _, _, _, _, xL_NoCurve⟩, xsa_NoCurve, xe_NoCurve, xt_NoCurve, xk_NoCurve⟩, by rw [hC_NoCurve]; exact xn_NoCurve, by rw [hC_NoCurve]; exact xI_NoCurve, xT_NoCurve, FX_NoCurve, FX_NoCurve.binds fun _ _ _ _ _ _ us hl => match us, hl with | [_, _], _ => rfl⟩
    fx_NoTurned := _, fdx_NoTurned := _, x_NoTurned := ⟨by rw [hC_NoTurned]; exact PySem.W.mg_of X G xa_NoTurned, by rw [hC_NoTurned]; exact ⟨⟨_, _, _, _, _, _, _, _, _, _, _, _, _, _, xL_NoTurned⟩, xsa_NoTurned, xe_NoTurned, xt_NoTurned, xk_NoTurned⟩, by rw [hC_NoTurned]; exact xn_NoTurned, by rw [hC_NoTurned]; exact xI_NoTurned, xT_NoTurned, FX_NoTurned, FX_NoTurned.binds fun _ _ _ _ _ _ us hl => match us, hl with | [_, _], _ => rfl⟩
    te := (fun n m b h => hte _ (tabO_at h))
    m_ValueError := (PySem.W.mg_none_of X G z_ValueError)
    m_ZeroDivisionError := (PySem.W.mg_none_of X G z_ZeroDivisionError)
    m_all := (PySem.W.mg_none_of X G z_all)
    m_bool := (PySem.W.mg_none_of X G z_bool)
    m_dict := (PySem.W.mg_none_of X G z_dict)
    m_enumerate := (PySem.W.mg_none_of X G z_enumerate)
    m_int := (PySem.W.mg_none_of X G z_int)
    m_isinstance := (PySem.W.mg_none_of X G z_isinstance)
    m_len := (PySem.W.mg_none_of X G z_len)
    m_list := (PySem.W.mg_none_of X G z_list)
    m_range := (PySem.W.mg_none_of X G z_range)
    m_repr := (PySem.W.mg_none_of X G z_repr)
    m_sorted := (PySem.W.mg_none_of X G z_sorted)
    m_str := (PySem.W.mg_none_of X G z_str)
    m_tuple := (PySem.W.mg_none_of X G z_tuple)
    m_zip := (PySem.W.mg_none_of X G z_zip)
    f_law_fresh := _, fd_law_fresh := _, F_law_fresh := F0, m_law_fresh := (PySem.W.mg_of X G a0), b_law_fresh := (F0.binds fun _ _ _ _ _ _ us hl => match us, hl with | [_], _ => rfl)
    f_law_draw := _, fd_law_draw := _, F_law_draw := F1, m_law_draw := (PySem.W.mg_of X G a1), b_law_draw := (F1.binds fun _ _ _ _ _ _ us hl => match us, hl with | [_, _], _ => rfl)
    f_law_bent_row := _, fd_law_bent_row := _, F_law_bent_row := F2, m_law_bent_row := (PySem.W.mg_of X G a2), b_law_bent_row := (F2.binds fun _ _ _ _ _ _ us hl => match us, hl with | [_, _], _ => rfl)
    f_law_bent_cover := _, fd_law_bent_cover := _, F_law_bent_cover := F3, m_law_bent_cover := (PySem.W.mg_of X G a3), b_law_bent_cover := (F3.binds fun _ _ _ _ _ _ us hl => match us, hl with | [_, _], _ => rfl)
    f_law_bent := _, fd_law_bent := _, F_law_bent := F4, m_law_bent := (PySem.W.mg_of X G a4), b_law_bent := (F4.binds fun _ _ _ _ _ _ us hl => match us, hl with | [_, _, _], _ => rfl)
    f_law_coins := _, fd_law_coins := _, F_law_coins := F5, m_law_coins := (PySem.W.mg_of X G a5), b_law_coins := (F5.binds fun _ _ _ _ _ _ us hl => match us, hl with | [_, _, _], _ => rfl)
    f_law_companies := _, fd_law_companies := _, F_law_companies := F6, m_law_companies := (PySem.W.mg_of X G a6), b_law_companies := (F6.binds fun _ _ _ _ _ _ us hl => match us, hl with | [], _ => rfl)
    f_law_company := _, fd_law_company := _, F_law_company := F7, m_law_company := (PySem.W.mg_of X G a7), b_law_company := (F7.binds fun _ _ _ _ _ _ us hl => match us, hl with | [_, _], _ => rfl)
    f_law_pen := _, fd_law_pen := _, F_law_pen := F8, m_law_pen := (PySem.W.mg_of X G a8), b_law_pen := (F8.binds fun _ _ _ _ _ _ us hl => match us, hl with | [_], _ => rfl)
    f_law_piece := _, fd_law_piece := _, F_law_piece := F9, m_law_piece := (PySem.W.mg_of X G a9), b_law_piece := (F9.binds fun _ _ _ _ _ _ us hl => match us, hl with | [_, _, _, _], _ => rfl)
    f_law_pieces := _, fd_law_pieces := _, F_law_pieces := F10, m_law_pieces := (PySem.W.mg_of X G a10), b_law_pieces := (F10.binds fun _ _ _ _ _ _ us hl => match us, hl with | [_, _, _], _ => rfl)
    f_law_number := _, fd_law_number := _, F_law_number := F11, m_law_number := (PySem.W.mg_of X G a11), b_law_number := (F11.binds fun _ _ _ _ _ _ us hl => match us, hl with | [_], _ => rfl)
    f_law_same := _, fd_law_same := _, F_law_same := F12, m_law_same := (PySem.W.mg_of X G a12), b_law_same := (F12.binds fun _ _ _ _ _ _ us hl => match us, hl with | [_, _], _ => rfl)
    f_is_number := _, fd_is_number := _, F_is_number := F13, m_is_number := (PySem.W.mg_of X G a13), b_is_number := (F13.binds fun _ _ _ _ _ _ us hl => match us, hl with | [_], _ => rfl)
    f_is_same := _, fd_is_same := _, F_is_same := F14, m_is_same := (PySem.W.mg_of X G a14), b_is_same := (F14.binds fun _ _ _ _ _ _ us hl => match us, hl with | [_, _], _ => rfl)
    f_turned := _, fd_turned := _, F_turned := F15, m_turned := (PySem.W.mg_of X G a15), b_turned := (F15.binds fun _ _ _ _ _ _ us hl => match us, hl with | [_, _], _ => rfl)
    f_with_nought := _, fd_with_nought := _, F_with_nought := F16, m_with_nought := (PySem.W.mg_of X G a16), b_with_nought := (F16.binds fun _ _ _ _ _ _ us hl => match us, hl with | [_, _, _], _ => rfl)
    f_worth := _, fd_worth := _, F_worth := F17, m_worth := (PySem.W.mg_of X G a17), b_worth := (F17.binds fun _ _ _ _ _ _ us hl => match us, hl with | [_, _, _], _ => rfl)
    f_through := _, fd_through := _, F_through := F18, m_through := (PySem.W.mg_of X G a18), b_through := (F18.binds fun _ _ _ _ _ _ us hl => match us, hl with | [_, _], _ => rfl)
    f_curve_of := _, fd_curve_of := _, F_curve_of := F19, m_curve_of := (PySem.W.mg_of X G a19), b_curve_of := (F19.binds fun _ _ _ _ _ _ us hl => match us, hl with | [_, _, _], _ => rfl)
    f_lots_of := _, fd_lots_of := _, F_lots_of := F20, m_lots_of := (PySem.W.mg_of X G a20)
    bd_lots_of_2 := FunD.binds1 F20 2 0 (fun z => by cases z) rfl (fun _ _ _ _ _ _ _ us its l1 l2 => match us, its, l1, l2 with | [_, _], [_], _, _ => ⟨_, rfl, rfl⟩)
    bd_lots_of_3 := FunD.binds1 F20 3 1 (fun z => by cases z) rfl (fun _ _ _ _ _ _ _ us its l1 l2 => match us, its, l1, l2 with | [_, _, _], [_], _, _ => ⟨_, rfl, rfl⟩)
    f_off_hands := _, fd_off_hands := _, F_off_hands := F21, m_off_hands := (PySem.W.mg_of X G a21), b_off_hands := (F21.binds fun _ _ _ _ _ _ us hl => match us, hl with | [_, _, _], _ => rfl)
    f_mended := _, fd_mended := _, F_mended := F22, m_mended := (PySem.W.mg_of X G a22), b_mended := (F22.binds fun _ _ _ _ _ _ us hl => match us, hl with | [_, _], _ => rfl)
    f_is_mended := _, fd_is_mended := _, F_is_mended := F23, m_is_mended := (PySem.W.mg_of X G a23), b_is_mended := (F23.binds fun _ _ _ _ _ _ us hl => match us, hl with | [_, _, _], _ => rfl)
    kb_is_mended_pieces_company_thing := (fun s ws _ hl => match ws, hl with | [_, _, _], _ => .of_eq rfl) }
  exact ⟨_, fun s v => .of_eq rfl, fun base _ _ => ok_law T F24⟩
end Law
open PySem PySem.W PyProof.Rows
set_option maxHeartbeats 0 in
theorem PySem.Challenge.cw_mutehands_k13_what_was_found_looked_over_holds : PySem.Challenge.rw_mutehands_k13_what_was_found_looked_over.Holds := by
  w_on; o_law; k_head; (case hw => w_witness2)
  k_fill
  refine FL.walk_F (l := PySem.Challenge.rw_mutehands_k13_what_was_found_looked_over) (x := "_law_script") (lv := 10) rfl rfl ⟨rfl, by decide, by decide⟩ (fun w h Y => PySem.W.kIn_of Y) ?F Law.law_ok
  case F =>
    intro w mg fa h KX G hmg
    refine' Law.all_mk KX G hmg ?a0 ?l0 ?c0 ?k0 ?a1 ?l1 ?c1 ?k1 ?a2 ?l2 ?c2 ?k2 ?a3 ?l3 ?c3 ?k3 ?a4 ?l4 ?c4 ?k4 ?a5 ?l5 ?c5 ?k5 ?a6 ?l6 ?c6 ?k6 ?a7 ?l7 ?c7 ?k7 ?a8 ?l8 ?c8 ?k8 ?a9 ?l9 ?c9 ?k9 ?a10 ?l10 ?c10 ?k10 ?a11 ?l11 ?c11 ?k11 ?a12 ?l12 ?c12 ?k12 ?a13 ?l13 ?c13 ?k13 ?a14 ?l14 ?c14 ?k14 ?a15 ?l15 ?c15 ?k15 ?a16 ?l16 ?c16 ?k16 ?a17 ?l17 ?c17 ?k17 ?a18 ?l18 ?c18 ?k18 ?a19 ?l19 ?c19 ?k19 ?a20 ?l20 ?c20 ?k20 ?t20 ?a21 ?l21 ?c21 ?k21 ?a22 ?l22 ?c22 ?k22 ?a23 ?l23 ?c23 ?k23 ?a24 ?l24 ?c24 ?k24 ?z_ValueError ?z_ZeroDivisionError ?z_all ?z_bool ?z_dict ?z_enumerate ?z_int ?z_isinstance ?z_len ?z_list ?z_range ?z_repr ?z_sorted ?z_str ?z_tuple ?z_zip ?xa_NoCurve ?xe_NoCurve ?xt_NoCurve ?xi_NoCurve ?xs_NoCurve ?xa_NoTurned ?xe_NoTurned ?xt_NoTurned ?xi_NoTurned ?xs_NoTurned ?xL_NoCurve ?xsa_NoCurve ?xk_NoCurve ?xn_NoCurve ?xI_NoCurve ?xT_NoCurve ?xl_NoCurve ?xc_NoCurve ?xK_NoCurve ?xL_NoTurned ?xsa_NoTurned ?xk_NoTurned ?xn_NoTurned ?xI_NoTurned ?xT_NoTurned ?xl_NoTurned ?xc_NoTurned ?xK_NoTurned ?xv_ValueError ?xv_ZeroDivisionError
    (case a0 => k_is); (case l0 => k_is); (case c0 => k_is); (case k0 => k_is); (case a1 => k_is); (case l1 => k_is); (case c1 => k_is); (case k1 => k_is); (case a2 => k_is); (case l2 => k_is); (case c2 => k_is); (case k2 => k_is); (case a3 => k_is); (case l3 => k_is); (case c3 => k_is); (case k3 => k_is); (case a4 => k_is); (case l4 => k_is); (case c4 => k_is); (case k4 => k_is); (case a5 => k_is); (case l5 => k_is); (case c5 => k_is); (case k5 => k_is); (case a6 => k_is); (case l6 => k_is); (case c6 => k_is); (case k6 => k_is); (case a7 => k_is); (case l7 => k_is); (case c7 => k_is); (case k7 => k_is); (case a8 => k_is); (case l8 => k_is); (case c8 => k_is); (case k8 => k_is); (case a9 => k_is); (case l9 => k_is); (case c9 => k_is); (case k9 => k_is); (case a10 => k_is); (case l10 => k_is); (case c10 => k_is); (case k10 => k_is); (case a11 => k_is); (case l11 => k_is); (case c11 => k_is); (case k11 => k_is); (case a12 => k_is); (case l12 => k_is); (case c12 => k_is); (case k12 => k_is); (case a13 => k_is); (case l13 => k_is); (case c13 => k_is); (case k13 => k_is); (case a14 => k_is); (case l14 => k_is); (case c14 => k_is); (case k14 => k_is); (case a15 => k_is); (case l15 => k_is); (case c15 => k_is); (case k15 => k_is); (case a16 => k_is); (case l16 => k_is); (case c16 => k_is); (case k16 => k_is); (case a17 => k_is); (case l17 => k_is); (case c17 => k_is); (case k17 => k_is); (case a18 => k_is); (case l18 => k_is); (case c18 => k_is); (case k18 => k_is); (case a19 => k_is); (case l19 => k_is); (case c19 => k_is); (case k19 => k_is); (case a20 => k_is); (case l20 => k_is); (case c20 => k_is); (case k20 => k_is); (case t20 => k_is); (case a21 => k_is); (case l21 => k_is); (case c21 => k_is); (case k21 => k_is); (case a22 => k_is); (case l22 => k_is); (case c22 => k_is); (case k22 => k_is); (case a23 => k_is); (case l23 => k_is); (case c23 => k_is); (case k23 => k_is); (case a24 => k_is); (case l24 => k_is); (case c24 => k_is); (case k24 => k_is); (case z_ValueError => k_is); (case z_ZeroDivisionError => k_is); (case z_all => k_is); (case z_bool => k_is); (case z_dict => k_is); (case z_enumerate => k_is); (case z_int => k_is); (case z_isinstance => k_is); (case z_len => k_is); (case z_list => k_is); (case z_range => k_is); (case z_repr => k_is); (case z_sorted => k_is); (case z_str => k_is); (case z_tuple => k_is); (case z_zip => k_is); (case xa_NoCurve => k_is); (case xe_NoCurve => k_is); (case xt_NoCurve => k_is); (case xi_NoCurve => k_is); (case xs_NoCurve => k_is); (case xa_NoTurned => k_is); (case xe_NoTurned => k_is); (case xt_NoTurned => k_is); (case xi_NoTurned => k_is); (case xs_NoTurned => k_is); (case xL_NoCurve => k_is); (case xsa_NoCurve => k_is); (case xk_NoCurve => k_is); (case xn_NoCurve => k_is); (case xI_NoCurve => k_is); (case xT_NoCurve => k_is); (case xl_NoCurve => k_is); (case xc_NoCurve => k_is); (case xK_NoCurve => k_is); (case xL_NoTurned => k_is); (case xsa_NoTurned => k_is); (case xk_NoTurned => k_is); (case xn_NoTurned => k_is); (case xI_NoTurned => k_is); (case xT_NoTurned => k_is); (case xl_NoTurned => k_is); (case xc_NoTurned => k_is); (case xK_NoTurned => k_is); (case xv_ValueError => k_is); (case xv_ZeroDivisionError => k_is)
